/- What a script of one tick answers, and what the two laws return. -/
import Derived.Test.YtcaojfapibkplaaGreatDoorW3
import Derived.Test.YtcaojfapibkplaaGreatDoorE4
import Derived.ChangeMaps5
import Derived.WideShapes
namespace Go.Proofs.YtcaojfapibkplaaGreatDoor
open Go Go.Sl Go.En

theorem as_nil (F : Frm) (t : Value) : FnOk Tryz.prog 54 [.nilIface, t] [] F (fun r H => r = .bool false ∧ H = []) := by
  refine Sl.FnOk.of (κ := [(0, _), (1, _)]) Go.Proofs.Tryz.func54 rfl rfl Go.Proofs.Tryz.ntmps54 rfl rfl ?_
  refine Sl.Tr.seq ?_
  refine Sl.Tr.region ?_
  refine Sl.G.ro (Sl.RO.rd (Sl.RO.assign rfl)) rfl ?_
  refine Sl.G.nil ?_
  refine Sl.Post.thenN ?_
  refine Sl.Tr.seq ?_
  refine Sl.Tr.seq ?_
  refine Sl.Tr.region ?_
  refine Sl.G.ro (Sl.RO.rd (Sl.RO.move rfl)) rfl ?_
  refine Sl.G.ro (Sl.RO.rd (Sl.RO.eqlIfT rfl if_58)) rfl ?_
  refine Sl.G.nil ?_
  refine Sl.Post.thenN ?_
  refine Sl.Tr.condT rfl ?_
  refine Sl.Tr.seq ?_
  refine Sl.Tr.region ?_
  refine Sl.G.ro (Sl.RO.rd (Sl.RO.assign rfl)) rfl ?_
  refine Sl.G.nil ?_
  refine Sl.Post.thenN ?_
  refine Sl.Tr.ret ?_
  refine Sl.Post.thenR ?_
  refine Sl.Post.fin rfl (.tmp rfl .nil) rfl .n ?_ (.inl rfl)
  exact ⟨rfl, rfl⟩

/-! a tick of an empty system -/
theorem first_empty (F : Frm) (b c : Nat) : FnOk Tryz.prog 106 [.pointer (some ⟨b, 0, none⟩)] [pt b (cl [.slice none 0 0, .map (some c)] 188)] F (fun r H => r = .tuple #[.agg #[.int .i64 0, .int .i64 0], .bool false] ∧ H = [pt b (cl [.slice none 0 0, .map (some c)] 188)]) := by
  refine Sl.FnOk.of (κ := [(0, _)]) Go.Proofs.Tryz.func106 rfl rfl Go.Proofs.Tryz.ntmps106 rfl rfl ?_
  refine Sl.Tr.seq ?_
  refine Sl.Tr.region ?_
  refine Sl.G.alloc zv_264 rfl (fun b0 => ?_)
  refine Sl.G.ro (Sl.RO.rd (Sl.RO.assign rfl)) rfl ?_
  refine Sl.G.nil ?_
  refine Sl.Post.thenN ?_
  refine Sl.Tr.seq ?_
  refine Sl.Tr.block ?_
  refine Sl.Tr.loop (α := Unit) (fun _ => []) [(2, _), (0, _)] (fun _ => []) [_, _] (fun _ => True) (fun _ => 0) (()) ?_ trivial ⟨rfl, rfl, trivial⟩ (.p .h (.p .h .o)) ?_
  · exact trivial
  rintro _ _
  dsimp only [List.cons_append, List.nil_append]
  (try dsimp only at *)
  refine Sl.Tr.seq ?_
  refine Sl.Tr.seq ?_
  refine Sl.Tr.region ?_
  refine Sl.G.ro (Sl.RO.rd (Sl.RO.move rfl)) rfl ?_
  refine Sl.G.ro (Sl.RO.rd (Sl.RO.nilCheck rfl)) rfl ?_
  refine Sl.G.ro (Sl.RO.rd (Sl.RO.fieldAddr rfl fo_188_0)) rfl ?_
  refine Sl.G.ro (Sl.RO.rd (Sl.RO.fieldAddr rfl fo_186_0)) rfl ?_
  refine Sl.G.ro (Sl.RD.load1 rfl (.t .h) ly_184 rfl) rfl ?_
  refine Sl.G.ro (Sl.RO.rd (Sl.RO.lenSl rfl sl_184)) rfl ?_
  refine Sl.G.ro (Sl.RO.rd (Sl.RO.bF (Sl.RO.gtr rfl rfl) (by omega))) rfl ?_
  refine Sl.G.nil ?_
  refine Sl.Post.thenN ?_
  refine Sl.Tr.condF rfl ?_
  refine Sl.Tr.exit ?_
  refine Sl.Post.thenE ?_
  refine Sl.Post.thenE ?_
  refine Sl.Post.blockE ?_
  refine Sl.Post.thenN ?_
  refine Sl.Tr.seq ?_
  refine Sl.Tr.region ?_
  refine Sl.G.ro (Sl.RO.rd (Sl.RO.build pl_264 zv_264 rfl rfl)) rfl ?_
  refine Sl.G.store rfl rfl rfl rfl ly_264 rfl .h rfl ?_
  refine Sl.G.ro (Sl.RO.rd (Sl.RO.assign rfl)) rfl ?_
  refine Sl.G.nil ?_
  refine Sl.Post.thenN ?_
  refine Sl.Tr.ret ?_
  refine Sl.Post.fin rfl (.cell rfl .h ly_264 rfl (.tmp rfl .nil)) rfl (.p (.t .h) .n) ?_ (.inl rfl)
  exact ⟨rfl, rfl⟩
theorem due_empty (F : Frm) (b c : Nat) (n : Int) : FnOk Tryz.prog 70 [.pointer (some ⟨b, 0, none⟩), .int .i64 n] [pt b (cl [.slice none 0 0, .map (some c)] 188)] F (fun r H => r = .slice none 0 0 ∧ H = [pt b (cl [.slice none 0 0, .map (some c)] 188)]) := by
  refine Sl.FnOk.of (κ := [(0, _), (1, _)]) Go.Proofs.Tryz.func70 rfl rfl Go.Proofs.Tryz.ntmps70 rfl rfl ?_
  refine Sl.Tr.seq ?_
  refine Sl.Tr.region ?_
  refine Sl.G.ro (Sl.RO.rd (Sl.RO.assign rfl)) rfl ?_
  refine Sl.G.nil ?_
  refine Sl.Post.thenN ?_
  refine Sl.Tr.seq ?_
  refine Sl.Tr.region ?_
  refine Sl.G.ro (Sl.RO.rd (Sl.RO.assign rfl)) rfl ?_
  refine Sl.G.nil ?_
  refine Sl.Post.thenN ?_
  refine Sl.Tr.block ?_
  refine Sl.Tr.loop (α := Unit) (fun _ => [(5, .slice none 0 0)]) [(0, _), (1, _)] (fun _ => []) [_] (fun _ => True) (fun _ => 0) (()) ?_ ⟨rfl, trivial⟩ ⟨rfl, rfl, trivial⟩ (.p .h .o) ?_
  · exact trivial
  rintro _ _
  dsimp only [List.cons_append, List.nil_append]
  (try dsimp only at *)
  refine Sl.Tr.block ?_
  refine Sl.Tr.seq ?_
  refine Sl.Tr.region ?_
  refine Sl.G.ro (Sl.RO.rd (Sl.RO.move rfl)) rfl ?_
  refine Sl.G.call rfl rfl .n (.c .n) (.p .h .n) (fun G' hle hhas => Go.Proofs.YtcaojfapibkplaaGreatDoor.first_empty  ..) rfl (fun v K hR => ?_)
  obtain ⟨rfl, rfl⟩ := hR
  refine Sl.G.app (.c .n) ?_
  refine Sl.G.ro (Sl.RO.rd (Sl.RO.move rfl)) rfl ?_
  refine Sl.G.ro (Sl.RO.rd (Sl.RO.extractL rfl rfl)) rfl ?_
  refine Sl.G.ro (Sl.RO.rd (Sl.RO.extractL rfl rfl)) rfl ?_
  refine Sl.G.alloc zv_264 rfl (fun b0 => ?_)
  refine Sl.G.store rfl rfl rfl rfl ly_264 rfl .h rfl ?_
  refine Sl.G.ro (Sl.RO.rd (Sl.RO.assign rfl)) rfl ?_
  refine Sl.G.nil ?_
  refine Sl.Post.thenN ?_
  refine Sl.Tr.seq ?_
  refine Sl.Tr.seq ?_
  refine Sl.Tr.region ?_
  refine Sl.G.ro (Sl.RO.rd (Sl.RO.move rfl)) rfl ?_
  refine Sl.G.ro (Sl.RO.rd (Sl.RO.notL (c := true) rfl rfl)) rfl ?_
  refine Sl.G.ro (Sl.RO.rd (Sl.RO.move rfl)) rfl ?_
  refine Sl.G.pass rfl rfl ?_
  refine Sl.G.pass rfl rfl ?_
  refine Sl.G.pass rfl rfl ?_
  refine Sl.G.pass rfl rfl ?_
  refine Sl.G.ro (Sl.RO.rd (Sl.RO.pickT rfl rfl)) rfl ?_
  refine Sl.G.nil ?_
  refine Sl.Post.thenN ?_
  refine Sl.Tr.condT rfl ?_
  refine Sl.Tr.seq ?_
  refine Sl.Tr.region ?_
  refine Sl.G.ro (Sl.RO.rd (Sl.RO.move rfl)) rfl ?_
  refine Sl.G.ro (Sl.RO.rd (Sl.RO.assign rfl)) rfl ?_
  refine Sl.G.nil ?_
  refine Sl.Post.thenN ?_
  refine Sl.Tr.ret ?_
  refine Sl.Post.thenR ?_
  refine Sl.Post.blockR ?_
  refine Sl.Post.thenR ?_
  refine Sl.Post.blockR ?_
  refine Sl.Post.fin rfl (.tmp rfl .nil) rfl (.p (.t .h) .n) ?_ (.inl rfl)
  exact ⟨rfl, rfl⟩
theorem kill_empty (F : Frm) (v : Value) (n : Int) : FnOk Tryz.prog 67 [v, .slice none 0 0, .int .i64 n] [] F (fun r H => r = .slice none 0 0 ∧ H = []) := by
  refine Sl.FnOk.of (κ := [(0, _), (1, _), (2, _)]) Go.Proofs.Tryz.func67 rfl rfl Go.Proofs.Tryz.ntmps67 rfl rfl ?_
  refine Sl.Tr.seq ?_
  refine Sl.Tr.region ?_
  refine Sl.G.ro (Sl.RO.rd (Sl.RO.assign rfl)) rfl ?_
  refine Sl.G.nil ?_
  refine Sl.Post.thenN ?_
  refine Sl.Tr.seq ?_
  refine Sl.Tr.region ?_
  refine Sl.G.ro (Sl.RO.rd (Sl.RO.assign rfl)) rfl ?_
  refine Sl.G.nil ?_
  refine Sl.Post.thenN ?_
  refine Sl.Tr.seq ?_
  refine Sl.Tr.seq ?_
  refine Sl.Tr.region ?_
  refine Sl.G.ro (Sl.RO.rd (Sl.RO.move rfl)) rfl ?_
  refine Sl.G.ro (Sl.RO.rd (Sl.RO.lenSl rfl sl_120)) rfl ?_
  refine Sl.G.ro (Sl.RO.rd (Sl.RO.move rfl)) rfl ?_
  refine Sl.G.nil ?_
  refine Sl.Post.thenN ?_
  refine Sl.Tr.block ?_
  refine Sl.Tr.loop (α := Unit) (fun _ => [(12, .int .i64 0), (7, .slice none 0 0)]) [(11, _), (10, _), (6, _), (0, _), (1, _), (2, _)] (fun _ => []) [] (fun _ => True) (fun _ => 0) (()) ?_ ⟨rfl, rfl, trivial⟩ ⟨rfl, rfl, rfl, rfl, rfl, rfl, trivial⟩ .o ?_
  · exact trivial
  rintro _ _
  dsimp only [List.cons_append, List.nil_append]
  (try dsimp only at *)
  refine Sl.Tr.seq ?_
  refine Sl.Tr.region ?_
  refine Sl.G.ro (Sl.RO.rd (Sl.RO.bF (Sl.RO.lss rfl rfl) (by omega))) rfl ?_
  refine Sl.G.nil ?_
  refine Sl.Post.thenN ?_
  refine Sl.Tr.seq ?_
  refine Sl.Tr.condF rfl ?_
  refine Sl.Tr.exit ?_
  refine Sl.Post.thenE ?_
  refine Sl.Post.thenE ?_
  refine Sl.Post.blockE ?_
  refine Sl.Post.thenN ?_
  refine Sl.Tr.seq ?_
  refine Sl.Tr.region ?_
  refine Sl.G.ro (Sl.RO.rd (Sl.RO.move rfl)) rfl ?_
  refine Sl.G.ro (Sl.RO.rd (Sl.RO.assign rfl)) rfl ?_
  refine Sl.G.nil ?_
  refine Sl.Post.thenN ?_
  refine Sl.Tr.ret ?_
  refine Sl.Post.fin rfl (.tmp rfl .nil) rfl .n ?_ (.inl rfl)
  exact ⟨rfl, rfl⟩
theorem tick_empty (F : Frm) (b bt c : Nat) (v0 v1 v2 v3 v4 v5 v6 v8 v9 v11 v12 v14 v15 : Value) (act : ActV) :
    FnOk Tryz.prog 51 [.pointer (some ⟨b, 0, none⟩), .agg (ActV.cells act).toArray] [pt b (cl [v0, v1, v2, v3, v4, v5, v6, .int .i64 0, v8, v9, v11, .pointer (some ⟨bt, 0, none⟩), v12, v14, v15] 136), pt bt (cl [.slice none 0 0, .map (some c)] 188)] F
      (fun r H => r = .tuple #[.slice none 0 0, .nilIface] ∧ H = [pt b (cl [v0, v1, v2, v3, v4, v5, v6, .int .i64 1, v8, v9, v11, .pointer (some ⟨bt, 0, none⟩), v12, v14, v15] 136), pt bt (cl [.slice none 0 0, .map (some c)] 188)]) := by
  refine Sl.FnOk.of (κ := [(0, _), (1, _)]) Go.Proofs.Tryz.func51 rfl rfl Go.Proofs.Tryz.ntmps51 rfl rfl ?_
  refine Sl.Tr.seq ?_
  refine Sl.Tr.region ?_
  refine Sl.G.box rfl rfl rfl (fun b0 => ?_)
  refine Sl.G.ro (Sl.RO.rd (Sl.RO.assign rfl)) rfl ?_
  refine Sl.G.ro (Sl.RO.rd (Sl.RO.assign rfl)) rfl ?_
  refine Sl.G.nil ?_
  refine Sl.Post.thenN ?_
  refine Sl.Tr.seq ?_
  refine Sl.Tr.seq ?_
  refine Sl.Tr.region ?_
  refine Sl.G.ro (Sl.RO.rd (Sl.RO.move rfl)) rfl ?_
  refine Sl.G.ro (Sl.RO.rd (Sl.RO.nilCheck rfl)) rfl ?_
  refine Sl.G.ro (Sl.RO.rd (Sl.RO.fieldAddr rfl fo_136_2)) rfl ?_
  refine Sl.G.ro (Sl.RD.load1 rfl (.t .h) ly_3 rfl) rfl ?_
  refine Sl.G.ro (Sl.RO.rd (Sl.RO.bF (Sl.RO.geq rfl rfl) (by decide))) rfl ?_
  refine Sl.G.nil ?_
  refine Sl.Post.thenN ?_
  refine Sl.Tr.condF rfl ?_
  refine Sl.Tr.skip ?_
  refine Sl.Post.thenN ?_
  refine Sl.Tr.seq ?_
  refine Sl.Tr.region ?_
  refine Sl.G.ro (Sl.RO.rd (Sl.RO.move rfl)) rfl ?_
  refine Sl.G.ro (Sl.RO.rd (Sl.RO.nilCheck rfl)) rfl ?_
  refine Sl.G.ro (Sl.RO.rd (Sl.RO.fieldAddr rfl fo_136_2)) rfl ?_
  refine Sl.G.ro (Sl.RD.load1 rfl (.t .h) ly_3 rfl) rfl ?_
  refine Sl.G.ro (Sl.RO.rd (Sl.RO.intL (y := 1) (Sl.RO.add rfl rfl) rfl)) rfl ?_
  refine Sl.G.ro (Sl.RO.rd (Sl.RO.nilCheck rfl)) rfl ?_
  refine Sl.G.ro (Sl.RO.rd (Sl.RO.fieldAddr rfl fo_136_2)) rfl ?_
  refine Sl.G.store rfl rfl rfl rfl ly_3 rfl (.t .h) rfl ?_
  refine Sl.G.nil ?_
  refine Sl.Post.thenN ?_
  refine Sl.Tr.seq ?_
  refine Sl.Tr.freeze (.t .h) (fun G1 hle1 hfz1 back1 thaw1 => ?_)
  refine Sl.Tr.draw (fuel := 13) (listed := [false, false, false, false, false, false, false, false, false, false, false, false, false]) mixed rfl rfl ?_
  refine Sl.GD.take (i := 0) rfl rfl rfl (Sl.RO.move rfl) rfl ?_
  refine Sl.GD.take (i := 1) rfl rfl rfl (Sl.RO.move rfl) rfl ?_
  refine Sl.GD.take (i := 2) rfl rfl rfl (Sl.RO.nilCheck rfl) rfl ?_
  refine Sl.GD.take (i := 3) rfl rfl rfl (Sl.RO.fieldAddr rfl fo_136_6) rfl ?_
  refine Sl.GD.take (i := 4) rfl rfl rfl (Sl.RO.load1 rfl hfz1 ly_133 rfl) rfl ?_
  refine Sl.GD.take (i := 5) rfl rfl rfl (Sl.RO.move rfl) rfl ?_
  refine Sl.GD.take (i := 6) rfl rfl rfl (Sl.RO.nilCheck rfl) rfl ?_
  refine Sl.GD.take (i := 7) rfl rfl rfl (Sl.RO.fieldAddr rfl fo_136_2) rfl ?_
  refine Sl.GD.take (i := 8) rfl rfl rfl (Sl.RO.load1 rfl hfz1 ly_3 rfl) rfl ?_
  refine Sl.GD.call (i := 9) rfl rfl rfl rfl rfl .n (.c (.c .n)) (.p (.t .h) .n) (fun G' hle hhas => Go.Proofs.YtcaojfapibkplaaGreatDoor.due_empty  ..) rfl (fun v K hR => ?_)
  obtain ⟨rfl, rfl⟩ := hR
  refine Sl.GD.app (.c .n) ?_
  refine Sl.GD.call (i := 10) rfl rfl rfl rfl rfl .n (.c (.c (.c .n))) .n (fun G' hle hhas => Go.Proofs.YtcaojfapibkplaaGreatDoor.kill_empty  ..) rfl (fun v K hR => ?_)
  obtain ⟨rfl, rfl⟩ := hR
  refine Sl.GD.app .n ?_
  refine Sl.GD.take (i := 11) rfl rfl rfl (Sl.RO.assign rfl) rfl ?_
  refine Sl.GD.take (i := 12) rfl rfl rfl (Sl.RO.assign rfl) rfl ?_
  refine Sl.GD.done rfl (back1 _ _ _ _ _ _ ?_)
  clear G1 hle1 hfz1 back1 thaw1
  refine Sl.Post.thenN ?_
  refine Sl.Tr.ret ?_
  refine Sl.Post.fin rfl (.tmp rfl (.tmp rfl .nil)) rfl (.p .h (.p .h .n)) ?_ (.inl rfl)
  exact ⟨rfl, rfl⟩


abbrev kx_142 : Int → Value := ekI
abbrev vx_142 (v : Value) : Value := v
theorem do_tick_empty (F : Frm) (b bt c : Nat) (v0 v1 v2 v3 v4 v5 v6 v8 v9 v11 v12 v14 v15 : Value) (j : Job) (n : Int) :
    FnOk Tryz.prog 25 [.pointer (some ⟨b, 0, none⟩), .agg (ActV.cells ⟨5, n, j⟩).toArray] [pt b (cl [v0, v1, v2, v3, v4, v5, v6, .int .i64 0, v8, v9, v11, .pointer (some ⟨bt, 0, none⟩), v12, v14, v15] 136), pt bt (cl [.slice none 0 0, .map (some c)] 188)] F
      (fun r H => r = .agg #[.int .i64 0, .slice none 0 0] ∧ H = [pt b (cl [v0, v1, v2, v3, v4, v5, v6, .int .i64 1, v8, v9, v11, .pointer (some ⟨bt, 0, none⟩), v12, v14, v15] 136), pt bt (cl [.slice none 0 0, .map (some c)] 188)]) := by
  refine Sl.FnOk.of (κ := [(0, _), (1, _)]) Go.Proofs.Tryz.func25 rfl rfl Go.Proofs.Tryz.ntmps25 rfl rfl ?_
  refine Sl.Tr.seq ?_
  refine Sl.Tr.region ?_
  refine Sl.G.box rfl rfl rfl (fun b0 => ?_)
  refine Sl.G.alloc zv_27 rfl (fun b1 => ?_)
  refine Sl.G.nil ?_
  refine Sl.Post.thenN ?_
  refine Sl.Tr.seq ?_
  refine Sl.Tr.region ?_
  refine Sl.G.makeMap kx_142 vx_142 rfl (fun b2 => ?_)
  refine Sl.G.ro (Sl.RO.rd (Sl.RO.move rfl)) rfl ?_
  refine Sl.G.ro (Sl.RO.rd (Sl.RO.makeFunc rfl rfl)) rfl ?_
  refine Sl.G.mapUpdate (ek := kx_142) (ev' := vx_142) _ _ (.inr rfl) rfl rfl rfl mp_142 (Sl.keyIk ik_3) .h ?_
  refine Sl.G.ro (Sl.RO.rd (Sl.RO.move rfl)) rfl ?_
  refine Sl.G.ro (Sl.RO.rd (Sl.RO.makeFunc rfl rfl)) rfl ?_
  refine Sl.G.mapUpdate (ek := kx_142) (ev' := vx_142) _ _ (.inr rfl) rfl rfl rfl mp_142 (Sl.keyIk ik_3) .h ?_
  refine Sl.G.ro (Sl.RO.rd (Sl.RO.move rfl)) rfl ?_
  refine Sl.G.ro (Sl.RO.rd (Sl.RO.makeFunc rfl rfl)) rfl ?_
  refine Sl.G.mapUpdate (ek := kx_142) (ev' := vx_142) _ _ (.inr rfl) rfl rfl rfl mp_142 (Sl.keyIk ik_3) .h ?_
  refine Sl.G.ro (Sl.RO.rd (Sl.RO.move rfl)) rfl ?_
  refine Sl.G.ro (Sl.RO.rd (Sl.RO.makeFunc rfl rfl)) rfl ?_
  refine Sl.G.mapUpdate (ek := kx_142) (ev' := vx_142) _ _ (.inr rfl) rfl rfl rfl mp_142 (Sl.keyIk ik_3) .h ?_
  refine Sl.G.ro (Sl.RO.rd (Sl.RO.move rfl)) rfl ?_
  refine Sl.G.ro (Sl.RO.rd (Sl.RO.makeFunc rfl rfl)) rfl ?_
  refine Sl.G.mapUpdate (ek := kx_142) (ev' := vx_142) _ _ (.inr rfl) rfl rfl rfl mp_142 (Sl.keyIk ik_3) .h ?_
  refine Sl.G.ro (Sl.RO.rd (Sl.RO.move rfl)) rfl ?_
  refine Sl.G.ro (Sl.RO.rd (Sl.RO.makeFunc rfl rfl)) rfl ?_
  refine Sl.G.mapUpdate (ek := kx_142) (ev' := vx_142) _ _ (.inr rfl) rfl rfl rfl mp_142 (Sl.keyIk ik_3) .h ?_
  refine Sl.G.ro (Sl.RO.rd (Sl.RO.move rfl)) rfl ?_
  refine Sl.G.ro (Sl.RO.rd (Sl.RO.makeFunc rfl rfl)) rfl ?_
  refine Sl.G.mapUpdate (ek := kx_142) (ev' := vx_142) _ _ (.inr rfl) rfl rfl rfl mp_142 (Sl.keyIk ik_3) .h ?_
  refine Sl.G.ro (Sl.RO.rd (Sl.RO.move rfl)) rfl ?_
  refine Sl.G.ro (Sl.RO.rd (Sl.RO.makeFunc rfl rfl)) rfl ?_
  refine Sl.G.mapUpdate (ek := kx_142) (ev' := vx_142) _ _ (.inr rfl) rfl rfl rfl mp_142 (Sl.keyIk ik_3) .h ?_
  refine Sl.G.ro (Sl.RO.rd (Sl.RO.move rfl)) rfl ?_
  refine Sl.G.ro (Sl.RO.rd (Sl.RO.fieldAddr rfl fo_80_0)) rfl ?_
  refine Sl.G.ro (Sl.RD.load1 rfl (.t (.t .h)) ly_3 rfl) rfl ?_
  refine Sl.G.ro (Sl.RD.lookup2 (ek := kx_142) (ev' := vx_142) _ rfl rfl mp_142 (Sl.keyIk ik_3) zr_140 .h) rfl ?_
  refine Sl.G.ro (Sl.RO.rd (Sl.RO.move rfl)) rfl ?_
  refine Sl.G.ro (Sl.RO.rd (Sl.RO.extractL rfl rfl)) rfl ?_
  refine Sl.G.ro (Sl.RO.rd (Sl.RO.extractL rfl rfl)) rfl ?_
  refine Sl.G.ro (Sl.RO.rd (Sl.RO.assign rfl)) rfl ?_
  refine Sl.G.ro (Sl.RO.rd (Sl.RO.assign rfl)) rfl ?_
  refine Sl.G.nil ?_
  refine Sl.Post.thenN ?_
  refine Sl.Tr.seq ?_
  refine Sl.Tr.seq ?_
  refine Sl.Tr.region ?_
  refine Sl.G.ro (Sl.RO.rd (Sl.RO.move rfl)) rfl ?_
  refine Sl.G.ro (Sl.RO.rd (Sl.RO.notL (c := false) rfl rfl)) rfl ?_
  refine Sl.G.nil ?_
  refine Sl.Post.thenN ?_
  refine Sl.Tr.condF rfl ?_
  refine Sl.Tr.skip ?_
  refine Sl.Post.thenN ?_
  refine Sl.Tr.seq ?_
  refine Sl.Tr.region ?_
  refine Sl.G.ro (Sl.RO.rd (Sl.RO.move rfl)) rfl ?_
  refine Sl.G.ro (Sl.RD.load rfl (.t (.t .h)) ly_80 rfl) rfl ?_
  refine Sl.G.as 38 (.func (.func 51) #[.pointer (some ⟨b, 0, none⟩)] #[]) rfl ?_ ?_
  · rfl
  refine Sl.G.call rfl rfl (.c .n) (.c (.c .n)) (.p (.t (.t (.t .h))) (.p (.t (.t (.t .h))) .n)) (fun G' hle hhas => tick_empty (act := ⟨5, n, j⟩)  ..) rfl (fun v K hR => ?_)
  obtain ⟨rfl, rfl⟩ := hR
  refine Sl.G.app (.c (.c .n)) ?_
  refine Sl.G.ro (Sl.RO.rd (Sl.RO.move rfl)) rfl ?_
  refine Sl.G.ro (Sl.RO.rd (Sl.RO.extractL rfl rfl)) rfl ?_
  refine Sl.G.ro (Sl.RO.rd (Sl.RO.extractL rfl rfl)) rfl ?_
  refine Sl.G.ro (Sl.RO.rd (Sl.RO.assign rfl)) rfl ?_
  refine Sl.G.ro (Sl.RO.rd (Sl.RO.assign rfl)) rfl ?_
  refine Sl.G.nil ?_
  refine Sl.Post.thenN ?_
  refine Sl.Tr.seq ?_
  refine Sl.Tr.region ?_
  refine Sl.G.alloc zv_144 rfl (fun b3 => ?_)
  refine Sl.G.nil ?_
  refine Sl.Post.thenN ?_
  refine Sl.Tr.seq ?_
  refine Sl.Tr.seq ?_
  refine Sl.Tr.region ?_
  refine Sl.G.ro (Sl.RO.rd (Sl.RO.move rfl)) rfl ?_
  refine Sl.G.ro (Sl.RO.rd (Sl.RO.makeIface rfl (by kernel_rfl))) rfl ?_
  refine Sl.G.call rfl rfl .n (.c (.c .n)) .n (fun G' hle hhas => Go.Proofs.YtcaojfapibkplaaGreatDoor.as_nil  ..) rfl (fun v K hR => ?_)
  obtain ⟨rfl, rfl⟩ := hR
  refine Sl.G.app .n ?_
  refine Sl.G.nil ?_
  refine Sl.Post.thenN ?_
  refine Sl.Tr.condF rfl ?_
  refine Sl.Tr.skip ?_
  refine Sl.Post.thenN ?_
  refine Sl.Tr.seq ?_
  refine Sl.Tr.region ?_
  refine Sl.G.ro (Sl.RO.rd (Sl.RO.move rfl)) rfl ?_
  refine Sl.G.ro (Sl.RO.rd (Sl.RO.build pl_27 zv_27 rfl rfl)) rfl ?_
  refine Sl.G.store rfl rfl rfl rfl ly_27 rfl (.t (.t (.t (.t .h)))) rfl ?_
  refine Sl.G.nil ?_
  refine Sl.Post.thenN ?_
  refine Sl.Tr.ret ?_

  skip
  refine Sl.Post.fin rfl (.cell rfl (.t (.t (.t (.t .h)))) ly_27 rfl .nil) rfl (.p (.t .h) (.p (.t .h) .n)) ?_ (.inl rfl)
  exact ⟨rfl, rfl⟩
end Go.Proofs.YtcaojfapibkplaaGreatDoor
namespace Go.Proofs.YtcaojfapibkplaaGreatDoor
open Go Go.Sl Go.En

/-- a run's memory -/
abbrev runA (br : Nat) (sys : SysA) (cf : ConfV) (pe : Option Addr) (n ce : Nat) : Assn :=
  pt br (cl [.slice cf.p cf.nodes.length cf.c, .slice cf.pq cf.qs.length cf.cq, .int .i64 cf.workers, .int .i64 cf.timeout, .int .i64 cf.runtime, .int .i64 cf.age, .pointer (some ⟨sys.b, 0, none⟩), .slice pe n ce] 74)
abbrev confMem (cf : ConfV) : List Assn := [sA 92 1 NodeV.cells cf.p cf.c cf.nodes, sep (cf.nodes.map NodeV.mem), sA 106 3 QueueV.cells cf.pq cf.cq cf.qs]
def goodCfg (x : List (List Units) × List QueueV × TailV) : Bool :=
  goodC x.1 && inB x.2.2.workers 1 4 && inB x.2.2.timeout 0 64 && inB x.2.2.runtime 1 1024 && inB x.2.2.age 1 1024 && goodRooms (x.2.1.map (·.room)) && goodQ (x.2.1.map (·.quota))

theorem script_New (F : Frm) (s : List UInt8) (hs : s.length ≤ 1000000) : FnOk Tryz.prog 19 [str s] [] F (fun v H => match rdConfig s with
    | none => v = .tuple #[.pointer none, .int .i64 11] ∧ H = []
    | some (x, a) => if goodCfg x = true then ∃ (br : Nat) (sys : SysA) (cf : ConfV) (pe : Option Addr) (ce : Nat), v = .tuple #[.pointer (some ⟨br, 0, none⟩), .int .i64 0] ∧
        H = [runA br sys cf pe (entries (s.drop a)).length ce, sA 82 12 EntryV.cells pe ce (entries (s.drop a))] ++ sys.mem cf ++ confMem cf ∧
        (dsOf cf.nodes, cf.qs, TailV.mk cf.workers cf.timeout cf.runtime cf.age) = x ∧ sys.acs.map AccV.pure = (cf.qs.map (·.quota)).map (fun u => (u, ⟨0, 0⟩))
      else v = .tuple #[.pointer none, .int .i64 1] ∧ H = []) := by
  refine Sl.FnOk.of (κ := [(0, _)]) Go.Proofs.Tryz.func19 rfl rfl Go.Proofs.Tryz.ntmps19 rfl rfl ?_
  refine Sl.Tr.seq ?_
  refine Sl.Tr.region ?_
  refine Sl.G.ro (Sl.RO.rd (Sl.RO.assign rfl)) rfl ?_
  refine Sl.G.ro (Sl.RO.rd (Sl.RO.assign rfl)) rfl ?_
  refine Sl.G.nil ?_
  refine Sl.Post.thenN ?_
  refine Sl.Tr.seq ?_
  refine Sl.Tr.region ?_
  refine Sl.G.ro (Sl.RO.rd (Sl.RO.move rfl)) rfl ?_
  refine Sl.G.call rfl rfl .n (.c .n) .n (fun G' hle hhas => Go.Proofs.YtcaojfapibkplaaGreatDoor.wire_Config (hs := (by assumption)) ..) rfl (fun v K hR => ?_)
  refine Sl.G.ro (Sl.RO.rd (Sl.RO.move rfl)) rfl ?_
  cases hc : rdConfig s with
  | none =>
    rw [hc] at hR
    obtain ⟨rfl, rfl⟩ := hR
    refine Sl.G.app .n ?_
    refine Sl.G.ro (Sl.RO.rd (Sl.RO.extractL rfl rfl)) rfl ?_
    refine Sl.G.ro (Sl.RO.rd (Sl.RO.extractL rfl rfl)) rfl ?_
    refine Sl.G.ro (Sl.RO.rd (Sl.RO.extractL rfl rfl)) rfl ?_
    refine Sl.G.alloc zv_65 rfl (fun b0 => ?_)
    refine Sl.G.store rfl rfl rfl rfl ly_65 rfl .h rfl ?_
    refine Sl.G.ro (Sl.RO.rd (Sl.RO.assign rfl)) rfl ?_
    refine Sl.G.ro (Sl.RO.rd (Sl.RO.assign rfl)) rfl ?_
    refine Sl.G.nil ?_
    refine Sl.Post.thenN ?_
    refine Sl.Tr.seq ?_
    refine Sl.Tr.seq ?_
    refine Sl.Tr.region ?_
    refine Sl.G.ro (Sl.RO.rd (Sl.RO.move rfl)) rfl ?_
    refine Sl.G.ro (Sl.RO.rd (Sl.RO.nT (Sl.RO.neq rfl rfl) (by decide))) rfl ?_
    refine Sl.G.nil ?_
    refine Sl.Post.thenN ?_
    refine Sl.Tr.condT rfl ?_
    refine Sl.Tr.seq ?_
    refine Sl.Tr.region ?_
    refine Sl.G.ro (Sl.RO.rd (Sl.RO.move rfl)) rfl ?_
    refine Sl.G.ro (Sl.RO.rd (Sl.RO.assign rfl)) rfl ?_
    refine Sl.G.ro (Sl.RO.rd (Sl.RO.assign rfl)) rfl ?_
    refine Sl.G.nil ?_
    refine Sl.Post.thenN ?_
    refine Sl.Tr.ret ?_
    refine Sl.Post.thenR ?_
    skip
    refine Sl.Post.fin rfl (.tmp rfl (.tmp rfl .nil)) rfl .n ?_ (.inl rfl)
    exact ⟨rfl, rfl⟩
  | some xa =>
    obtain ⟨⟨nds, qs, t⟩, a⟩ := xa
    rw [hc] at hR
    obtain ⟨p, c, nodes, pq, cq, rfl, rfl, rfl, hnl, hql, ha⟩ := hR
    refine Sl.G.app (.c (.c (.c .n))) ?_
    refine Sl.G.ro (Sl.RO.rd (Sl.RO.extractL rfl rfl)) rfl ?_
    refine Sl.G.ro (Sl.RO.rd (Sl.RO.extractL rfl rfl)) rfl ?_
    refine Sl.G.ro (Sl.RO.rd (Sl.RO.extractL rfl rfl)) rfl ?_
    refine Sl.G.alloc zv_65 rfl (fun b1 => ?_)
    refine Sl.G.store rfl rfl rfl rfl ly_65 rfl .h rfl ?_
    refine Sl.G.ro (Sl.RO.rd (Sl.RO.assign rfl)) rfl ?_
    refine Sl.G.ro (Sl.RO.rd (Sl.RO.assign rfl)) rfl ?_
    refine Sl.G.nil ?_
    refine Sl.Post.thenN ?_
    refine Sl.Tr.seq ?_
    refine Sl.Tr.seq ?_
    refine Sl.Tr.region ?_
    refine Sl.G.ro (Sl.RO.rd (Sl.RO.move rfl)) rfl ?_
    refine Sl.G.ro (Sl.RO.rd (Sl.RO.nF (Sl.RO.neq rfl rfl) (by decide))) rfl ?_
    refine Sl.G.nil ?_
    refine Sl.Post.thenN ?_
    refine Sl.Tr.condF rfl ?_
    refine Sl.Tr.skip ?_
    refine Sl.Post.thenN ?_
    refine Sl.Tr.seq ?_
    refine Sl.Tr.region ?_
    refine Sl.G.ro (Sl.RD.load rfl .h ly_65 rfl) rfl ?_
    skip
    refine Sl.G.call rfl rfl .n (.c .n) .n (fun G' hle hhas => sched_New (cf := ⟨p, c, nodes, pq, cq, qs, t.workers, t.timeout, t.runtime, t.age⟩) (hq := hhas _ (Sl.memAt 3 rfl)) (hv := (⟨hhas _ (Sl.memAt 1 rfl), fun r hr => Sl.Frm.has_mem (hhas _ (Sl.memAt 2 rfl)) (List.mem_map_of_mem (f := NodeV.mem) hr)⟩)) (hql := (by simp; omega)) ..) rfl (fun v K hR => ?_)
    refine Sl.G.ro (Sl.RO.rd (Sl.RO.move rfl)) rfl ?_
    rw [show ConfV.good ⟨p, c, nodes, pq, cq, qs, t.workers, t.timeout, t.runtime, t.age⟩ = goodCfg (nodes.map (·.ds), qs, t) from rfl] at hR
    by_cases hg : goodCfg (nodes.map (·.ds), qs, t) = true
    · rw [if_pos hg] at hR
      obtain ⟨sys, rfl, hacs, rfl⟩ := hR
      refine Sl.G.app (.c (.c (.c (.c (.c (.c (.c (.c (.c (.c (.c (.c (.c (.c (.c (.c (.c (.c (.c (.c (.c (.c .n)))))))))))))))))))))) ?_
      refine Sl.G.ro (Sl.RO.rd (Sl.RO.extractL rfl rfl)) rfl ?_
      refine Sl.G.ro (Sl.RO.rd (Sl.RO.extractL rfl rfl)) rfl ?_
      refine Sl.G.ro (Sl.RO.rd (Sl.RO.assign rfl)) rfl ?_
      refine Sl.G.ro (Sl.RO.rd (Sl.RO.assign rfl)) rfl ?_
      refine Sl.G.nil ?_
      refine Sl.Post.thenN ?_
      refine Sl.Tr.seq ?_
      refine Sl.Tr.seq ?_
      refine Sl.Tr.region ?_
      refine Sl.G.ro (Sl.RO.rd (Sl.RO.move rfl)) rfl ?_
      refine Sl.G.ro (Sl.RO.rd (Sl.RO.nF (Sl.RO.neq rfl rfl) (by decide))) rfl ?_
      refine Sl.G.nil ?_
      refine Sl.Post.thenN ?_
      refine Sl.Tr.condF rfl ?_
      refine Sl.Tr.skip ?_
      refine Sl.Post.thenN ?_
      refine Sl.Tr.seq ?_
      refine Sl.Tr.freeze (.t (.t (.t (.t (.t (.t (.t (.t (.t (.t (.t (.t (.t (.t (.t (.t (.t (.t (.t (.t (.t (.t .h)))))))))))))))))))))) (fun G2 hle2 hfz2 back2 thaw2 => ?_)
      refine Sl.Tr.draw (fuel := 8) (listed := [false, false, false, false, false, false, false, false]) mixed rfl rfl ?_
      refine Sl.GD.take (i := 0) rfl rfl rfl (Sl.RO.load rfl hfz2 ly_65 rfl) rfl ?_
      refine Sl.GD.take (i := 1) rfl rfl rfl (Sl.RO.move rfl) rfl ?_
      refine Sl.GD.take (i := 2) rfl rfl rfl (Sl.RO.move rfl) rfl ?_
      refine Sl.GD.call (i := 3) rfl rfl rfl rfl rfl .n (.c .n) .n (fun G' hle hhas => Go.Proofs.YtcaojfapibkplaaGreatDoor.wire_Entries (hs := (by simp; omega)) ..) rfl (fun v K hR => ?_)
      obtain ⟨p3, ⟨c4, ⟨rfl, rfl⟩⟩⟩ := hR
      refine Sl.GD.app (.c .n) ?_
      refine Sl.GD.take (i := 4) rfl rfl rfl (Sl.RO.build pl_74 zv_74 rfl rfl) rfl ?_
      refine Sl.GD.acts (i := 5) rfl rfl rfl (Sl.Acts.box rfl rfl) rfl (fun _ _ hx => ?_) (fun _ hx => by obtain ⟨_, hx, _⟩ := hx; cases hx)
      (obtain ⟨b5, hv, rfl⟩ := hx; cases hv)
      refine Sl.GD.take (i := 6) rfl rfl rfl (Sl.RO.assign rfl) rfl ?_
      refine Sl.GD.take (i := 7) rfl rfl rfl (Sl.RO.assign rfl) rfl ?_
      refine Sl.GD.done rfl (back2 _ _ _ _ _ _ ?_)
      clear G2 hle2 hfz2 back2 thaw2
      refine Sl.Post.thenN ?_
      refine Sl.Tr.ret ?_
      skip
      refine Sl.Post.fin rfl (.tmp rfl (.tmp rfl .nil)) rfl (.p (.t .h) (.p (.t .h) (.p (.t .h) (.p (.t .h) (.p (.t .h) (.p (.t .h) (.p (.t .h) (.p (.t .h) (.p (.t .h) (.p (.t .h) (.p (.t .h) (.p (.t .h) (.p (.t .h) (.p (.t .h) (.p (.t .h) (.p (.t .h) (.p (.t .h) (.p (.t .h) (.p (.t .h) (.p (.t .h) (.p (.t .h) (.p (.t .h) (.p (.t .h) (.p (.t .h) (.p (.t .h) (.p (.t .h) (.p (.t .h) .n))))))))))))))))))))))))))) ?_ (.inl rfl)
      simp only
      rw [if_pos hg]
      exact ⟨b5, sys, ⟨p, c, nodes, pq, cq, qs, t.workers, t.timeout, t.runtime, t.age⟩, p3, c4, rfl, rfl, rfl, hacs⟩
    · rw [if_neg hg] at hR
      obtain ⟨rfl, rfl⟩ := hR
      refine Sl.G.app .n ?_
      refine Sl.G.ro (Sl.RO.rd (Sl.RO.extractL rfl rfl)) rfl ?_
      refine Sl.G.ro (Sl.RO.rd (Sl.RO.extractL rfl rfl)) rfl ?_
      refine Sl.G.ro (Sl.RO.rd (Sl.RO.assign rfl)) rfl ?_
      refine Sl.G.ro (Sl.RO.rd (Sl.RO.assign rfl)) rfl ?_
      refine Sl.G.nil ?_
      refine Sl.Post.thenN ?_
      refine Sl.Tr.seq ?_
      refine Sl.Tr.seq ?_
      refine Sl.Tr.region ?_
      refine Sl.G.ro (Sl.RO.rd (Sl.RO.move rfl)) rfl ?_
      refine Sl.G.ro (Sl.RO.rd (Sl.RO.nT (Sl.RO.neq rfl rfl) (by decide))) rfl ?_
      refine Sl.G.nil ?_
      refine Sl.Post.thenN ?_
      refine Sl.Tr.condT rfl ?_
      refine Sl.Tr.seq ?_
      refine Sl.Tr.region ?_
      refine Sl.G.ro (Sl.RO.rd (Sl.RO.move rfl)) rfl ?_
      refine Sl.G.ro (Sl.RO.rd (Sl.RO.assign rfl)) rfl ?_
      refine Sl.G.ro (Sl.RO.rd (Sl.RO.assign rfl)) rfl ?_
      refine Sl.G.nil ?_
      refine Sl.Post.thenN ?_
      refine Sl.Tr.ret ?_
      refine Sl.Post.thenR ?_
      skip
      refine Sl.Post.fin rfl (.tmp rfl (.tmp rfl .nil)) rfl .n ?_ (.inl rfl)
      simp only
      rw [if_neg hg]
      exact ⟨trivial, trivial⟩

/-- one step, when none is left -/
theorem step_end (F : Frm) (br ce : Nat) (pe : Option Addr) (v0 v1 v2 v3 v4 v5 v6 : Value) : FnOk Tryz.prog 20 [.pointer (some ⟨br, 0, none⟩)] [pt br (cl [v0, v1, v2, v3, v4, v5, v6, .slice pe 0 ce] 74)] F
    (fun r H => r = .tuple #[.agg #[.int .i64 0, .slice none 0 0], .bool false] ∧ H = [pt br (cl [v0, v1, v2, v3, v4, v5, v6, .slice pe 0 ce] 74)]) := by
  refine Sl.FnOk.of (κ := [(0, _)]) Go.Proofs.Tryz.func20 rfl rfl Go.Proofs.Tryz.ntmps20 rfl rfl ?_
  refine Sl.Tr.seq ?_
  refine Sl.Tr.region ?_
  refine Sl.G.alloc zv_27 rfl (fun b0 => ?_)
  refine Sl.G.ro (Sl.RO.rd (Sl.RO.assign rfl)) rfl ?_
  refine Sl.G.nil ?_
  refine Sl.Post.thenN ?_
  refine Sl.Tr.seq ?_
  refine Sl.Tr.seq ?_
  refine Sl.Tr.region ?_
  refine Sl.G.ro (Sl.RO.rd (Sl.RO.move rfl)) rfl ?_
  refine Sl.G.ro (Sl.RO.rd (Sl.RO.nilCheck rfl)) rfl ?_
  refine Sl.G.ro (Sl.RO.rd (Sl.RO.fieldAddr rfl fo_74_2)) rfl ?_
  refine Sl.G.ro (Sl.RD.load1 rfl (.t .h) ly_71 rfl) rfl ?_
  refine Sl.G.ro (Sl.RO.rd (Sl.RO.lenSl rfl sl_71)) rfl ?_
  refine Sl.G.ro (Sl.RO.rd (Sl.RO.bT (Sl.RO.eql rfl rfl) (by omega))) rfl ?_
  refine Sl.G.nil ?_
  refine Sl.Post.thenN ?_
  refine Sl.Tr.condT rfl ?_
  refine Sl.Tr.seq ?_
  refine Sl.Tr.region ?_
  refine Sl.G.ro (Sl.RO.rd (Sl.RO.build pl_27 zv_27 rfl rfl)) rfl ?_
  refine Sl.G.store rfl rfl rfl rfl ly_27 rfl .h rfl ?_
  refine Sl.G.ro (Sl.RO.rd (Sl.RO.assign rfl)) rfl ?_
  refine Sl.G.nil ?_
  refine Sl.Post.thenN ?_
  refine Sl.Tr.ret ?_
  refine Sl.Post.thenR ?_
  refine Sl.Post.fin rfl (.cell rfl .h ly_27 rfl (.tmp rfl .nil)) rfl (.p (.t .h) .n) ?_ (.inl rfl)
  exact ⟨rfl, rfl⟩
/-- one step at what is no entry -/
theorem step_err (F : Frm) (br ce : Nat) (pe : Option Addr) (e : EntryV) (l : List EntryV) (v0 v1 v2 v3 v4 v5 v6 : Value) (he : e.err ≠ 0) (hl : l.length ≤ 1000000) : FnOk Tryz.prog 20 [.pointer (some ⟨br, 0, none⟩)] [pt br (cl [v0, v1, v2, v3, v4, v5, v6, .slice pe (e :: l).length ce] 74), sA 82 12 EntryV.cells pe ce (e :: l)] F
    (fun r H => ∃ pe' ce', r = .tuple #[.agg #[.int .i64 e.err, .slice none 0 0], .bool true] ∧ H = [pt br (cl [v0, v1, v2, v3, v4, v5, v6, .slice pe' l.length ce'] 74), sA 82 12 EntryV.cells pe' ce' l]) := by
  have h0 : (e :: l)[0]? = some e := rfl
  have hl1 : (e :: l).length = l.length + 1 := rfl
  refine Sl.FnOk.of (κ := [(0, _)]) Go.Proofs.Tryz.func20 rfl rfl Go.Proofs.Tryz.ntmps20 rfl rfl ?_
  refine Sl.Tr.seq ?_
  refine Sl.Tr.region ?_
  refine Sl.G.alloc zv_27 rfl (fun b0 => ?_)
  refine Sl.G.ro (Sl.RO.rd (Sl.RO.assign rfl)) rfl ?_
  refine Sl.G.nil ?_
  refine Sl.Post.thenN ?_
  refine Sl.Tr.seq ?_
  refine Sl.Tr.seq ?_
  refine Sl.Tr.region ?_
  refine Sl.G.ro (Sl.RO.rd (Sl.RO.move rfl)) rfl ?_
  refine Sl.G.ro (Sl.RO.rd (Sl.RO.nilCheck rfl)) rfl ?_
  refine Sl.G.ro (Sl.RO.rd (Sl.RO.fieldAddr rfl fo_74_2)) rfl ?_
  refine Sl.G.ro (Sl.RD.load1 rfl (.t .h) ly_71 rfl) rfl ?_
  refine Sl.G.ro (Sl.RO.rd (Sl.RO.lenSl rfl sl_71)) rfl ?_
  refine Sl.G.ro (Sl.RO.rd (Sl.RO.bF (Sl.RO.eql rfl rfl) (by omega))) rfl ?_
  refine Sl.G.nil ?_
  refine Sl.Post.thenN ?_
  refine Sl.Tr.condF rfl ?_
  refine Sl.Tr.skip ?_
  refine Sl.Post.thenN ?_
  refine Sl.Tr.seq ?_
  refine Sl.Tr.region ?_
  refine Sl.G.ro (Sl.RO.rd (Sl.RO.move rfl)) rfl ?_
  refine Sl.G.ro (Sl.RO.rd (Sl.RO.nilCheck rfl)) rfl ?_
  refine Sl.G.ro (Sl.RO.rd (Sl.RO.fieldAddr rfl fo_74_2)) rfl ?_
  refine Sl.G.ro (Sl.RD.load1 rfl (.t .h) ly_71 rfl) rfl ?_
  refine Sl.G.ro (Sl.RD.atEl rfl rfl sl_71 (.t (.t .h)) (by assumption)) rfl ?_
  refine Sl.G.ro (Sl.RD.loadEp rfl (.t (.t .h)) (by assumption) ly_82 rfl) rfl ?_
  refine Sl.G.alloc zv_82 rfl (fun b1 => ?_)
  refine Sl.G.store rfl rfl rfl rfl ly_82 rfl .h rfl ?_
  refine Sl.G.nil ?_
  refine Sl.Post.thenN ?_
  refine Sl.Tr.seq ?_
  refine Sl.Tr.region ?_
  refine Sl.G.ro (Sl.RO.rd (Sl.RO.move rfl)) rfl ?_
  refine Sl.G.ro (Sl.RO.rd (Sl.RO.move rfl)) rfl ?_
  refine Sl.G.ro (Sl.RO.rd (Sl.RO.nilCheck rfl)) rfl ?_
  refine Sl.G.ro (Sl.RO.rd (Sl.RO.fieldAddr rfl fo_74_2)) rfl ?_
  refine Sl.G.ro (Sl.RD.load1 rfl (.t (.t .h)) ly_71 rfl) rfl ?_
  refine Sl.G.sliceFrom (j := 1) rfl rfl sl_71 rfl (.t (.t (.t .h))) (by omega) rfl (fun p2 c3 => ?_)
  refine Sl.G.ro (Sl.RO.rd (Sl.RO.nilCheck rfl)) rfl ?_
  refine Sl.G.ro (Sl.RO.rd (Sl.RO.fieldAddr rfl fo_74_2)) rfl ?_
  refine Sl.G.store rfl rfl rfl rfl ly_71 rfl (.t (.t (.t .h))) rfl ?_
  refine Sl.G.nil ?_
  refine Sl.Post.thenN ?_
  refine Sl.Tr.seq ?_
  refine Sl.Tr.seq ?_
  refine Sl.Tr.region ?_
  refine Sl.G.ro (Sl.RO.rd (Sl.RO.fieldAddr rfl fo_82_1)) rfl ?_
  refine Sl.G.ro (Sl.RD.load1 rfl (.t .h) ly_24 rfl) rfl ?_
  refine Sl.G.ro (Sl.RO.rd (Sl.RO.nT (Sl.RO.neq rfl rfl) (by omega))) rfl ?_
  refine Sl.G.nil ?_
  refine Sl.Post.thenN ?_
  refine Sl.Tr.condT rfl ?_
  refine Sl.Tr.seq ?_
  refine Sl.Tr.region ?_
  refine Sl.G.ro (Sl.RO.rd (Sl.RO.fieldAddr rfl fo_82_1)) rfl ?_
  refine Sl.G.ro (Sl.RD.load1 rfl (.t .h) ly_24 rfl) rfl ?_
  refine Sl.G.ro (Sl.RO.rd (Sl.RO.build pl_27 zv_27 rfl rfl)) rfl ?_
  refine Sl.G.store rfl rfl rfl rfl ly_27 rfl (.t (.t .h)) rfl ?_
  refine Sl.G.ro (Sl.RO.rd (Sl.RO.assign rfl)) rfl ?_
  refine Sl.G.nil ?_
  refine Sl.Post.thenN ?_
  refine Sl.Tr.ret ?_
  refine Sl.Post.thenR ?_
  refine Sl.Post.fin rfl (.cell rfl (.t (.t .h)) ly_27 rfl (.tmp rfl .nil)) rfl (.p (.t (.t (.t .h))) (.p .h .n)) ?_ (.inl rfl)
  exact ⟨p2, c3, rfl, rfl⟩

/-- one step at a Tick, of an empty system -/
theorem step_tick (F : Frm) (br ce b bt c : Nat) (pe : Option Addr) (n a : Int) (j : Job) (l : List EntryV) (w0 w1 w2 w3 w4 w5 v0 v1 v2 v3 v4 v5 v6 v8 v9 v11 v12 v14 v15 : Value) (hl : l.length ≤ 1000000) : FnOk Tryz.prog 20 [.pointer (some ⟨br, 0, none⟩)] [pt br (cl [w0, w1, w2, w3, w4, w5, .pointer (some ⟨b, 0, none⟩), .slice pe (EntryV.mk ⟨5, n, j⟩ 0 a :: l).length ce] 74), sA 82 12 EntryV.cells pe ce (EntryV.mk ⟨5, n, j⟩ 0 a :: l),
      pt b (cl [v0, v1, v2, v3, v4, v5, v6, .int .i64 0, v8, v9, v11, .pointer (some ⟨bt, 0, none⟩), v12, v14, v15] 136), pt bt (cl [.slice none 0 0, .map (some c)] 188)] F
    (fun r H => ∃ pe' ce', r = .tuple #[.agg #[.int .i64 0, .slice none 0 0], .bool true] ∧ H = [pt br (cl [w0, w1, w2, w3, w4, w5, .pointer (some ⟨b, 0, none⟩), .slice pe' l.length ce'] 74), sA 82 12 EntryV.cells pe' ce' l,
      pt b (cl [v0, v1, v2, v3, v4, v5, v6, .int .i64 1, v8, v9, v11, .pointer (some ⟨bt, 0, none⟩), v12, v14, v15] 136), pt bt (cl [.slice none 0 0, .map (some c)] 188)]) := by
  have h0 : (EntryV.mk ⟨5, n, j⟩ 0 a :: l)[0]? = some (EntryV.mk ⟨5, n, j⟩ 0 a) := rfl
  have hl1 : (EntryV.mk ⟨5, n, j⟩ 0 a :: l).length = l.length + 1 := rfl
  refine Sl.FnOk.of (κ := [(0, _)]) Go.Proofs.Tryz.func20 rfl rfl Go.Proofs.Tryz.ntmps20 rfl rfl ?_
  refine Sl.Tr.seq ?_
  refine Sl.Tr.region ?_
  refine Sl.G.alloc zv_27 rfl (fun b0 => ?_)
  refine Sl.G.ro (Sl.RO.rd (Sl.RO.assign rfl)) rfl ?_
  refine Sl.G.nil ?_
  refine Sl.Post.thenN ?_
  refine Sl.Tr.seq ?_
  refine Sl.Tr.seq ?_
  refine Sl.Tr.region ?_
  refine Sl.G.ro (Sl.RO.rd (Sl.RO.move rfl)) rfl ?_
  refine Sl.G.ro (Sl.RO.rd (Sl.RO.nilCheck rfl)) rfl ?_
  refine Sl.G.ro (Sl.RO.rd (Sl.RO.fieldAddr rfl fo_74_2)) rfl ?_
  refine Sl.G.ro (Sl.RD.load1 rfl (.t .h) ly_71 rfl) rfl ?_
  refine Sl.G.ro (Sl.RO.rd (Sl.RO.lenSl rfl sl_71)) rfl ?_
  refine Sl.G.ro (Sl.RO.rd (Sl.RO.bF (Sl.RO.eql rfl rfl) (by omega))) rfl ?_
  refine Sl.G.nil ?_
  refine Sl.Post.thenN ?_
  refine Sl.Tr.condF rfl ?_
  refine Sl.Tr.skip ?_
  refine Sl.Post.thenN ?_
  refine Sl.Tr.seq ?_
  refine Sl.Tr.region ?_
  refine Sl.G.ro (Sl.RO.rd (Sl.RO.move rfl)) rfl ?_
  refine Sl.G.ro (Sl.RO.rd (Sl.RO.nilCheck rfl)) rfl ?_
  refine Sl.G.ro (Sl.RO.rd (Sl.RO.fieldAddr rfl fo_74_2)) rfl ?_
  refine Sl.G.ro (Sl.RD.load1 rfl (.t .h) ly_71 rfl) rfl ?_
  refine Sl.G.ro (Sl.RD.atEl rfl rfl sl_71 (.t (.t .h)) (by assumption)) rfl ?_
  refine Sl.G.ro (Sl.RD.loadEp rfl (.t (.t .h)) (by assumption) ly_82 rfl) rfl ?_
  refine Sl.G.alloc zv_82 rfl (fun b1 => ?_)
  refine Sl.G.store rfl rfl rfl rfl ly_82 rfl .h rfl ?_
  refine Sl.G.nil ?_
  refine Sl.Post.thenN ?_
  refine Sl.Tr.seq ?_
  refine Sl.Tr.region ?_
  refine Sl.G.ro (Sl.RO.rd (Sl.RO.move rfl)) rfl ?_
  refine Sl.G.ro (Sl.RO.rd (Sl.RO.move rfl)) rfl ?_
  refine Sl.G.ro (Sl.RO.rd (Sl.RO.nilCheck rfl)) rfl ?_
  refine Sl.G.ro (Sl.RO.rd (Sl.RO.fieldAddr rfl fo_74_2)) rfl ?_
  refine Sl.G.ro (Sl.RD.load1 rfl (.t (.t .h)) ly_71 rfl) rfl ?_
  refine Sl.G.sliceFrom (j := 1) rfl rfl sl_71 rfl (.t (.t (.t .h))) (by omega) rfl (fun p2 c3 => ?_)
  refine Sl.G.ro (Sl.RO.rd (Sl.RO.nilCheck rfl)) rfl ?_
  refine Sl.G.ro (Sl.RO.rd (Sl.RO.fieldAddr rfl fo_74_2)) rfl ?_
  refine Sl.G.store rfl rfl rfl rfl ly_71 rfl (.t (.t (.t .h))) rfl ?_
  refine Sl.G.nil ?_
  refine Sl.Post.thenN ?_
  refine Sl.Tr.seq ?_
  refine Sl.Tr.seq ?_
  refine Sl.Tr.region ?_
  refine Sl.G.ro (Sl.RO.rd (Sl.RO.fieldAddr rfl fo_82_1)) rfl ?_
  refine Sl.G.ro (Sl.RD.load1 rfl (.t .h) ly_24 rfl) rfl ?_
  refine Sl.G.cmpn (Sl.RO.neq rfl rfl) rfl (fun hc4 => ?_) (fun hc4 => ?_)
  refine Sl.G.nil ?_
  refine Sl.Post.thenN ?_
  refine Sl.Tr.condT rfl ?_
  refine Sl.Tr.seq ?_
  refine Sl.Tr.region ?_
  refine Sl.G.ro (Sl.RO.rd (Sl.RO.fieldAddr rfl fo_82_1)) rfl ?_
  refine Sl.G.ro (Sl.RD.load1 rfl (.t .h) ly_24 rfl) rfl ?_
  refine Sl.G.ro (Sl.RO.rd (Sl.RO.build pl_27 zv_27 rfl rfl)) rfl ?_
  refine Sl.G.store rfl rfl rfl rfl ly_27 rfl (.t (.t .h)) rfl ?_
  refine Sl.G.ro (Sl.RO.rd (Sl.RO.assign rfl)) rfl ?_
  refine Sl.G.nil ?_
  refine Sl.Post.thenN ?_
  refine Sl.Tr.ret ?_
  refine Sl.Post.thenR ?_
  rotate_left
  refine Sl.G.nil ?_
  refine Sl.Post.thenN ?_
  refine Sl.Tr.condF rfl ?_
  refine Sl.Tr.skip ?_
  refine Sl.Post.thenN ?_
  refine Sl.Tr.seq ?_
  refine Sl.Tr.freeze (.t (.t (.t .h))) (fun G5 hle5 hfz5 back5 thaw5 => ?_)
  refine Sl.Tr.draw (fuel := 9) (listed := [false, false, false, false, false, false, false, false, false]) mixed rfl rfl ?_
  refine Sl.GD.take (i := 0) rfl rfl rfl (Sl.RO.move rfl) rfl ?_
  refine Sl.GD.take (i := 1) rfl rfl rfl (Sl.RO.nilCheck rfl) rfl ?_
  refine Sl.GD.take (i := 2) rfl rfl rfl (Sl.RO.fieldAddr rfl fo_74_1) rfl ?_
  refine Sl.GD.take (i := 3) rfl rfl rfl (Sl.RO.load1 rfl hfz5 ly_68 rfl) rfl ?_
  refine Sl.GD.take (i := 4) rfl rfl rfl (Sl.RO.fieldAddr rfl fo_82_0) rfl ?_
  refine Sl.GD.rd (i := 5) rfl rfl rfl (Sl.RD.load rfl (.t .h) ly_80 rfl) rfl ?_
  refine Sl.GD.call (i := 6) rfl rfl rfl rfl rfl .n (.c (.c .n)) (.p (.t (.t (.t .h))) (.p (.t (.t (.t .h))) .n)) (fun G' hle hhas => Go.Proofs.YtcaojfapibkplaaGreatDoor.do_tick_empty  ..) rfl (fun v K hR => ?_)
  obtain ⟨rfl, rfl⟩ := hR
  refine Sl.GD.app (.c (.c .n)) ?_
  refine Sl.GD.store (i := 7) rfl rfl rfl rfl rfl rfl rfl ly_27 rfl (.t (.t (.t (.t .h)))) rfl ?_
  refine Sl.GD.take (i := 8) rfl rfl rfl (Sl.RO.assign rfl) rfl ?_
  refine Sl.GD.done rfl (back5 _ _ _ _ _ _ ?_)
  clear G5 hle5 hfz5 back5 thaw5
  refine Sl.Post.thenN ?_
  refine Sl.Tr.ret ?_
  rotate_left
  · exact absurd rfl (by assumption)
  refine Sl.Post.fin rfl (.cell rfl (.t (.t (.t (.t (.t .h))))) ly_27 rfl (.tmp rfl .nil)) rfl (.p .h (.p (.t (.t .h)) (.p .h (.p .h .n)))) ?_ (.inl rfl)
  exact ⟨p2, c3, rfl, rfl⟩
end Go.Proofs.YtcaojfapibkplaaGreatDoor
namespace Go.Proofs.YtcaojfapibkplaaGreatDoor
open Go Go.Sl Go.En

/-- the fixed script of the law's example -/
def awakeS : List UInt8 := [1, 1, 4, 0, 8, 1, 0, 0, 9, 0, 0, 9, 3, 1, 2, 0, 9, 0, 4, 5, 9]
theorem awake_cfg : rdConfig awakeS = some (([[⟨4, 8⟩]], [⟨⟨9, 9⟩, 3⟩], ⟨1, 2, 9, 4⟩), 19) := by kernel_rfl
theorem awake_good : goodCfg ([[⟨4, 8⟩]], [⟨⟨9, 9⟩, 3⟩], ⟨1, 2, 9, 4⟩) = true := by kernel_rfl
theorem awake_ents : entries (awakeS.drop 19) = [⟨⟨5, 0, zJob⟩, 0, 0⟩, ⟨⟨0, 0, zJob⟩, 10, 1⟩] := by kernel_rfl
theorem play_awake (F : Frm) : FnOk Tryz.prog 11 [str awakeS] [] F (fun r H => r = .tuple #[str [0, 0, 10, 0], .int .i64 0] ∧ H = []) := by
  refine Sl.FnOk.of (κ := [(0, _)]) Go.Proofs.Tryz.func11 rfl rfl Go.Proofs.Tryz.ntmps11 rfl rfl ?_
  refine Sl.Tr.seq ?_
  refine Sl.Tr.region ?_
  refine Sl.G.ro (Sl.RO.rd (Sl.RO.assign rfl)) rfl ?_
  refine Sl.G.ro (Sl.RO.rd (Sl.RO.assign rfl)) rfl ?_
  refine Sl.G.nil ?_
  refine Sl.Post.thenN ?_
  refine Sl.Tr.seq ?_
  refine Sl.Tr.region ?_
  refine Sl.G.ro (Sl.RO.rd (Sl.RO.move rfl)) rfl ?_
  refine Sl.G.call rfl rfl .n (.c .n) .n (fun G' hle hhas => Go.Proofs.YtcaojfapibkplaaGreatDoor.script_New (hs := (by decide)) ..) rfl (fun v K hR => ?_)
  refine Sl.G.ro (Sl.RO.rd (Sl.RO.move rfl)) rfl ?_
  rw [awake_cfg] at hR
  simp only [awake_ents] at hR
  rw [if_pos awake_good] at hR
  obtain ⟨br, sys, cf, pe, ce, rfl, rfl, h1, h2⟩ := hR
  refine Sl.G.app (.c (.c (.c (.c (.c (.c (.c (.c (.c (.c (.c (.c (.c (.c (.c (.c (.c (.c (.c (.c (.c (.c (.c (.c (.c (.c (.c .n))))))))))))))))))))))))))) ?_
  refine Sl.G.ro (Sl.RO.rd (Sl.RO.extractL rfl rfl)) rfl ?_
  refine Sl.G.ro (Sl.RO.rd (Sl.RO.extractL rfl rfl)) rfl ?_
  refine Sl.G.ro (Sl.RO.rd (Sl.RO.assign rfl)) rfl ?_
  refine Sl.G.ro (Sl.RO.rd (Sl.RO.assign rfl)) rfl ?_
  refine Sl.G.nil ?_
  refine Sl.Post.thenN ?_
  refine Sl.Tr.seq ?_
  refine Sl.Tr.seq ?_
  refine Sl.Tr.region ?_
  refine Sl.G.ro (Sl.RO.rd (Sl.RO.move rfl)) rfl ?_
  refine Sl.G.ro (Sl.RO.rd (Sl.RO.nF (Sl.RO.neq rfl rfl) (by decide))) rfl ?_
  refine Sl.G.nil ?_
  refine Sl.Post.thenN ?_
  refine Sl.Tr.condF rfl ?_
  refine Sl.Tr.skip ?_
  refine Sl.Post.thenN ?_
  refine Sl.Tr.seq ?_
  refine Sl.Tr.region ?_
  refine Sl.G.ro (Sl.RO.rd (Sl.RO.assign rfl)) rfl ?_
  refine Sl.G.nil ?_
  refine Sl.Post.thenN ?_
  refine Sl.Tr.seq ?_
  refine Sl.Tr.seq ?_
  refine Sl.Tr.region ?_
  refine Sl.G.ro (Sl.RO.rd (Sl.RO.move rfl)) rfl ?_
  refine Sl.G.call rfl rfl .n (.c .n) (.p .h (.p .h (.p .h (.p (.t (.t (.t (.t (.t (.t (.t (.t (.t (.t (.t (.t (.t (.t (.t (.t (.t .h))))))))))))))))) .n)))) (fun G' hle hhas => Go.Proofs.YtcaojfapibkplaaGreatDoor.step_tick (hl := (by decide)) ..) rfl (fun v K hR => ?_)
  obtain ⟨pe0, ⟨ce1, ⟨rfl, rfl⟩⟩⟩ := hR
  refine Sl.G.app (.c (.c (.c (.c .n)))) ?_
  refine Sl.G.ro (Sl.RO.rd (Sl.RO.move rfl)) rfl ?_
  refine Sl.G.ro (Sl.RO.rd (Sl.RO.extractL rfl rfl)) rfl ?_
  refine Sl.G.ro (Sl.RO.rd (Sl.RO.extractL rfl rfl)) rfl ?_
  refine Sl.G.alloc zv_27 rfl (fun b2 => ?_)
  refine Sl.G.store rfl rfl rfl rfl ly_27 rfl .h rfl ?_
  refine Sl.G.ro (Sl.RO.rd (Sl.RO.assign rfl)) rfl ?_
  refine Sl.G.nil ?_
  refine Sl.Post.thenN ?_
  refine Sl.Tr.block ?_
  skip
  refine Sl.Tr.nilS 41 3 En.Event.cells ?_
  refine Sl.Tr.nilS 27 2 RepV.cells ?_
  refine Sl.Tr.unroll 3 ?_
  refine Sl.Rn.next ?_
  refine Sl.Tr.seq ?_
  refine Sl.Tr.seq ?_
  refine Sl.Tr.region ?_
  refine Sl.G.ro (Sl.RO.rd (Sl.RO.move rfl)) rfl ?_
  refine Sl.G.nil ?_
  refine Sl.Post.thenN ?_
  refine Sl.Tr.condT rfl ?_
  refine Sl.Tr.skip ?_
  refine Sl.Post.thenN ?_
  refine Sl.Tr.seq ?_
  refine Sl.Tr.block ?_
  refine Sl.Tr.region ?_
  refine Sl.G.ro (Sl.RO.rd (Sl.RO.move rfl)) rfl ?_
  refine Sl.G.ro (Sl.RD.load rfl (.t (.t .h)) ly_27 rfl) rfl ?_
  refine Sl.G.buildSlice ap_22 rfl rfl rfl rfl rfl (fun b3 => ?_)
  refine Sl.G.append1 (RepV.mk 0 none 0 []) Go.Proofs.YtcaojfapibkplaaGreatDoor.RepV.el rfl rfl ap_22 rfl (.t .h) (by simp only [List.length_nil]; omega) .h rfl rfl (fun p4 c5 => ?_)
  refine Sl.G.ro (Sl.RO.rd (Sl.RO.assign rfl)) rfl ?_
  refine Sl.G.nil ?_
  refine Sl.Post.blockN ?_
  refine Sl.Post.thenN ?_
  refine Sl.Tr.seq ?_
  refine Sl.Tr.seq ?_
  refine Sl.Tr.region ?_
  refine Sl.G.ro (Sl.RD.load rfl (.t (.t .h)) ly_27 rfl) rfl ?_
  refine Sl.G.nil ?_
  refine Sl.Post.thenN ?_
  refine Sl.Tr.region ?_
  refine Sl.G.alloc zv_27 rfl (fun b6 => ?_)
  refine Sl.G.store rfl rfl rfl rfl ly_27 rfl .h rfl ?_
  refine Sl.G.nil ?_
  refine Sl.Post.thenN ?_
  refine Sl.Tr.region ?_
  refine Sl.G.ro (Sl.RO.rd (Sl.RO.move rfl)) rfl ?_
  refine Sl.G.call rfl rfl .n (.c .n) (.p (.t (.t (.t (.t .h)))) (.p (.t (.t (.t (.t .h)))) .n)) (fun G' hle hhas => Go.Proofs.YtcaojfapibkplaaGreatDoor.step_err (he := (by decide)) (hl := (by decide)) ..) rfl (fun v K hR => ?_)
  obtain ⟨pe7, ⟨ce8, ⟨rfl, rfl⟩⟩⟩ := hR
  refine Sl.G.app (.c (.c .n)) ?_
  refine Sl.G.ro (Sl.RO.rd (Sl.RO.move rfl)) rfl ?_
  refine Sl.G.ro (Sl.RO.rd (Sl.RO.extractL rfl rfl)) rfl ?_
  refine Sl.G.ro (Sl.RO.rd (Sl.RO.extractL rfl rfl)) rfl ?_
  refine Sl.G.store rfl rfl rfl rfl ly_27 rfl (.t (.t .h)) rfl ?_
  refine Sl.G.ro (Sl.RO.rd (Sl.RO.assign rfl)) rfl ?_
  refine Sl.G.nil ?_
  refine Sl.Post.rounds ?_
  refine Sl.Rn.next ?_
  refine Sl.Tr.seq ?_
  refine Sl.Tr.seq ?_
  refine Sl.Tr.region ?_
  refine Sl.G.ro (Sl.RO.rd (Sl.RO.move rfl)) rfl ?_
  refine Sl.G.nil ?_
  refine Sl.Post.thenN ?_
  refine Sl.Tr.condT rfl ?_
  refine Sl.Tr.skip ?_
  refine Sl.Post.thenN ?_
  refine Sl.Tr.seq ?_
  refine Sl.Tr.block ?_
  refine Sl.Tr.region ?_
  refine Sl.G.ro (Sl.RO.rd (Sl.RO.move rfl)) rfl ?_
  refine Sl.G.ro (Sl.RD.load rfl (.t (.t .h)) ly_27 rfl) rfl ?_
  refine Sl.G.buildSlice ap_22 rfl rfl rfl rfl rfl (fun b9 => ?_)
  refine Sl.G.append1 (RepV.mk 10 none 0 []) Go.Proofs.YtcaojfapibkplaaGreatDoor.RepV.el rfl rfl ap_22 rfl (.t (.t (.t (.t .h)))) (by simp only [List.length_append, List.length_cons, List.length_nil]; omega) .h rfl rfl (fun p10 c11 => ?_)
  refine Sl.G.ro (Sl.RO.rd (Sl.RO.assign rfl)) rfl ?_
  refine Sl.G.nil ?_
  refine Sl.Post.blockN ?_
  refine Sl.Post.thenN ?_
  refine Sl.Tr.seq ?_
  refine Sl.Tr.seq ?_
  refine Sl.Tr.region ?_
  refine Sl.G.ro (Sl.RD.load rfl (.t (.t (.t .h))) ly_27 rfl) rfl ?_
  refine Sl.G.nil ?_
  refine Sl.Post.thenN ?_
  refine Sl.Tr.region ?_
  refine Sl.G.alloc zv_27 rfl (fun b12 => ?_)
  refine Sl.G.store rfl rfl rfl rfl ly_27 rfl .h rfl ?_
  refine Sl.G.nil ?_
  refine Sl.Post.thenN ?_
  refine Sl.Tr.region ?_
  refine Sl.G.ro (Sl.RO.rd (Sl.RO.move rfl)) rfl ?_
  refine Sl.G.call rfl rfl .n (.c .n) (.p (.t (.t .h)) .n) (fun G' hle hhas => Go.Proofs.YtcaojfapibkplaaGreatDoor.step_end  ..) rfl (fun v K hR => ?_)
  obtain ⟨rfl, rfl⟩ := hR
  refine Sl.G.app (.c .n) ?_
  refine Sl.G.ro (Sl.RO.rd (Sl.RO.move rfl)) rfl ?_
  refine Sl.G.ro (Sl.RO.rd (Sl.RO.extractL rfl rfl)) rfl ?_
  refine Sl.G.ro (Sl.RO.rd (Sl.RO.extractL rfl rfl)) rfl ?_
  refine Sl.G.store rfl rfl rfl rfl ly_27 rfl (.t .h) rfl ?_
  refine Sl.G.ro (Sl.RO.rd (Sl.RO.assign rfl)) rfl ?_
  refine Sl.G.nil ?_
  refine Sl.Post.rounds ?_
  refine Sl.Rn.next ?_
  refine Sl.Tr.seq ?_
  refine Sl.Tr.seq ?_
  refine Sl.Tr.region ?_
  refine Sl.G.ro (Sl.RO.rd (Sl.RO.move rfl)) rfl ?_
  refine Sl.G.nil ?_
  refine Sl.Post.thenN ?_
  refine Sl.Tr.condF rfl ?_
  refine Sl.Tr.exit ?_
  refine Sl.Post.thenE ?_
  refine Sl.Post.thenE ?_
  refine Sl.Post.blockE ?_
  refine Sl.Post.thenN ?_
  refine Sl.Tr.seq ?_
  refine Sl.Tr.region ?_
  refine Sl.G.ro (Sl.RO.rd (Sl.RO.move rfl)) rfl ?_
  refine Sl.G.call rfl rfl .n (.c .n) .n (fun G' hle hhas => script_Bytes (hv := (⟨⟨_, hhas _ (Sl.memAt 2 rfl)⟩, fun r hr => by simp at hr; rcases hr with rfl | rfl <;> exact ⟨⟨_, hhas _ (Sl.memAt 5 rfl)⟩, by simp⟩⟩)) (hl := (by decide)) (hl2 := (by decide)) ..) rfl (fun v K hR => ?_)
  obtain ⟨rfl, rfl⟩ := hR
  refine Sl.G.app .n ?_
  refine Sl.G.ro (Sl.RO.rd (Sl.RO.assign rfl)) rfl ?_
  refine Sl.G.ro (Sl.RO.rd (Sl.RO.assign rfl)) rfl ?_
  refine Sl.G.nil ?_
  refine Sl.Post.thenN ?_
  refine Sl.Tr.ret ?_
  refine Sl.Post.fin rfl (.tmp rfl (.tmp rfl .nil)) rfl .n ?_ (.inl rfl)
  exact ⟨rfl, rfl⟩
end Go.Proofs.YtcaojfapibkplaaGreatDoor
namespace Go.Proofs.YtcaojfapibkplaaGreatDoor
open Go Go.Sl Go.En

/-! bytes and numbers, there and back -/
theorem byteAt_nat (n j : Nat) : byteAt (n : Int) j = UInt8.ofNat (n / 256 ^ j % 256) := by
  unfold byteAt
  have h : ((n : Int).fdiv (2 ^ (8 * j)) % 256).toNat = n / 256 ^ j % 256 := by
    have h1 : ((2 : Int) ^ (8 * j)) = ((256 ^ j : Nat) : Int) := by
      rw [Int.pow_mul]; simp
    rw [h1, Int.fdiv_eq_ediv_of_nonneg _ (Int.natCast_nonneg _)]
    have h2 : (n : Int) / ((256 ^ j : Nat) : Int) = ((n / 256 ^ j : Nat) : Int) := by rw [Int.natCast_ediv]
    rw [h2]
    omega
  rw [h]
theorem putL_snoc (n m : Nat) : putL (n : Int) (m + 1) = putL ((n / 256 : Nat) : Int) m ++ [UInt8.ofNat (n % 256)] := by
  simp only [putL, List.range_succ, List.map_append, List.map_cons, List.map_nil]
  congr 1
  · apply List.map_congr_left
    intro k hk
    have hk := List.mem_range.1 hk
    rw [byteAt_nat, byteAt_nat]
    have : m + 1 - 1 - k = (m - 1 - k) + 1 := by omega
    rw [this, Nat.pow_succ, Nat.mul_comm, ← Nat.div_div_eq_div_mul]
  · rw [byteAt_nat]
    simp
theorem putL_num (l : List UInt8) : putL (num l : Nat) l.length = l := by
  have key : ∀ (k : Nat) (l : List UInt8), l.length = k → putL (num l : Nat) k = l := by
    intro k
    induction k with
    | zero => intro l h; rw [List.eq_nil_of_length_eq_zero h]; rfl
    | succ k ih =>
      intro l h
      rcases List.eq_nil_or_concat l with rfl | ⟨r, b, rfl⟩
      · simp at h
      · rw [List.concat_eq_append] at h ⊢
        have hb := b.toNat_lt
        rw [putL_snoc, num_snoc]
        have h1 : (num r * 256 + b.toNat) / 256 = num r := by omega
        have h2 : (num r * 256 + b.toNat) % 256 = b.toNat := by omega
        rw [h1, h2, ih r (by simpa using h)]
        simp
  exact key l.length l rfl
theorem putL_num' {l : List UInt8} {k : Nat} (h : l.length = k) : putL (num l : Nat) k = l := h ▸ putL_num l
theorem putL_byte (b : UInt8) : putL (b.toNat : Nat) 1 = [b] := by
  have := putL_num [b]
  simpa [num] using this

/-- a reply's bytes, by what it says alone -/
def repP (r : Int × List En.Event) : List UInt8 := putL r.1 1 ++ putL (min r.2.length 255 : Nat) 1 ++ evsB (r.2.take 255)
def bytesP (l : List (Int × List En.Event)) : List UInt8 := l.flatMap repP
theorem bytesB_P (l : List RepV) : bytesB l = bytesP (l.map RepV.pure) := by
  simp only [bytesB, bytesP, List.flatMap_map]
  rfl
theorem evsB_append (l m : List En.Event) : evsB (l ++ m) = evsB l ++ evsB m := by simp [evsB]
theorem evB_at (l : List UInt8) (h : 7 ≤ l.length) : evB (evAt l) = l.take 7 := by
  unfold evB evAt
  simp only
  rw [putL_num' (k := 1) (by simp; omega), putL_num' (k := 2) (by simp; omega), putL_num' (k := 4) (by simp; omega)]
  have h1 : l.take 7 = l.take 1 ++ ((l.drop 1).take 2 ++ (l.drop 3).take 4) := by
    have e1 : l.take 7 = l.take 1 ++ (l.drop 1).take 6 := by rw [← List.take_add]
    have e2 : (l.drop 1).take 6 = (l.drop 1).take 2 ++ ((l.drop 1).drop 2).take 4 := by rw [← List.take_add]
    rw [e1, e2, List.drop_drop]
  rw [h1, List.append_assoc]
theorem evsB_of (r : List UInt8) : ∀ n, 7 * n ≤ r.length → evsB (evsOf n r) = r.take (7 * n)
  | 0, _ => by simp [evsOf, evsB]
  | n + 1, h => by
    rw [evsOf_succ, evsB_append, evsB_of r n (by omega)]
    have : evsB [evAt (r.drop (7 * n))] = (r.drop (7 * n)).take 7 := by
      simp only [evsB, List.flatMap_cons, List.flatMap_nil, List.append_nil]
      exact evB_at _ (by simp; omega)
    rw [this, ← List.take_add]
    congr 1
/-- What is parsed has just those bytes. -/
theorem parse_bytes : ∀ (f : Nat) (s : List UInt8) (l : List (Int × List En.Event)), s.length ≤ f → parse s = some l → bytesP l = s ∧ 2 * l.length ≤ s.length ∧ ∀ r ∈ l, r.2.length ≤ 255
  | _, [], l, _, h => by rw [parse_nil] at h; cases h; simp [bytesP]
  | _, [a], l, _, h => by rw [parse_one] at h; cases h
  | 0, _ :: _, _, hf, _ => by simp at hf
  | f + 1, a :: b :: r, l, hf, h => by
    by_cases hs : r.length < 7 * b.toNat
    · rw [parse_short a b r hs] at h; cases h
    · rw [parse_cons a b r hs] at h
      cases hp : parse (r.drop (7 * b.toNat)) with
      | none => rw [hp] at h; cases h
      | some l' =>
        rw [hp] at h
        simp only [Option.map_some, Option.some.injEq] at h
        subst h
        have hb := b.toNat_lt
        obtain ⟨h1, h2, h3⟩ := parse_bytes f (r.drop (7 * b.toNat)) l' (by simp at hf ⊢; omega) hp
        refine ⟨?_, ?_, ?_⟩
        · simp only [bytesP, List.flatMap_cons]
          have : l'.flatMap repP = r.drop (7 * b.toNat) := h1
          rw [this]
          simp only [repP, evsOf_len]
          have hm : min b.toNat 255 = b.toNat := by omega
          rw [hm, putL_byte, putL_byte, List.take_of_length_le (by rw [evsOf_len]; omega), evsB_of r _ (by omega)]
          simp
        · simp only [List.length_cons]
          simp at h2; omega
        · intro x hx
          rcases List.mem_cons.1 hx with rfl | hx
          · simp only [evsOf_len]; omega
          · exact h3 x hx
theorem byteAt0 (n : Nat) (h : n ≤ 255) : (byteAt (n : Int) 0).toNat = n := by
  rw [byteAt_nat]
  simp; omega
/-- Replies' bytes are told as so many. -/
theorem parse_of : ∀ (l : List (Int × List En.Event)), ∃ x, parse (bytesP l) = some x ∧ x.length = l.length
  | [] => ⟨[], rfl, rfl⟩
  | r :: l => by
    obtain ⟨x, h1, h2⟩ := parse_of l
    have hn : min r.2.length 255 ≤ 255 := by omega
    have hb : bytesP (r :: l) = byteAt r.1 0 :: byteAt (min r.2.length 255 : Nat) 0 :: (evsB (r.2.take 255) ++ bytesP l) := by
      simp only [bytesP, List.flatMap_cons, repP]
      simp [putL]
    have hl : (evsB (r.2.take 255)).length = 7 * min r.2.length 255 := by rw [evsB_len]; simp; omega
    have h3 : (byteAt (min r.2.length 255 : Nat) 0).toNat = min r.2.length 255 := byteAt0 _ hn
    rw [hb, parse_cons _ _ _ (by rw [h3, List.length_append]; omega), h3, ← hl, List.drop_left, h1]
    exact ⟨_, rfl, by simp [h2]⟩
theorem evAt_take (l : List UInt8) : evAt l = evAt (l.take 7) := by
  unfold evAt
  congr 1
  · rw [List.take_take]; rfl
  · rw [List.drop_take, List.take_take]; rfl
  · rw [List.drop_take, List.take_take]; rfl
theorem evsOf_take (r : List UInt8) (m : Nat) : ∀ n, 7 * n ≤ m → evsOf n (r.take m) = evsOf n r
  | 0, _ => rfl
  | n + 1, h => by
    rw [evsOf_succ, evsOf_succ, evsOf_take r m n (by omega)]
    congr 2
    rw [evAt_take, evAt_take (r.drop (7 * n)), List.drop_take, List.take_take]
    congr 2
    omega
/-- What a beginning tells is a beginning of what all tells. -/
theorem parse_take : ∀ (f : Nat) (s : List UInt8) (k : Nat) (x y : List (Int × List En.Event)), s.length ≤ f → parse s = some x → parse (s.take k) = some y → y.length ≤ x.length ∧ y = x.take y.length
  | _, [], k, x, y, _, _, h => by
    rw [List.take_nil, parse_nil] at h; cases h; simp
  | _, _ :: _, 0, x, y, _, _, h => by
    rw [List.take_zero, parse_nil] at h; cases h; simp
  | 0, _ :: _, _, _, _, hf, _, _ => by simp at hf
  | _, [a], k + 1, x, y, _, hx, _ => by rw [parse_one] at hx; cases hx
  | _, a :: b :: r, 1, x, y, _, _, h => by rw [show List.take 1 (a :: b :: r) = [a] from rfl, parse_one] at h; cases h
  | f + 1, a :: b :: r, k + 2, x, y, hf, hx, h => by
    rw [show List.take (k + 2) (a :: b :: r) = a :: b :: r.take k from rfl] at h
    by_cases hs : r.length < 7 * b.toNat
    · rw [parse_short a b r hs] at hx; cases hx
    · by_cases ht : (r.take k).length < 7 * b.toNat
      · rw [parse_short a b _ ht] at h; cases h
      · rw [parse_cons a b r hs] at hx
        rw [parse_cons a b _ ht] at h
        have hk : 7 * b.toNat ≤ k := by simp at ht; omega
        cases hx' : parse (r.drop (7 * b.toNat)) with
        | none => rw [hx'] at hx; cases hx
        | some x' =>
          rw [hx'] at hx
          rw [List.drop_take] at h
          cases hy' : parse ((r.drop (7 * b.toNat)).take (k - 7 * b.toNat)) with
          | none => rw [hy'] at h; cases h
          | some y' =>
            rw [hy'] at h
            simp only [Option.map_some, Option.some.injEq] at hx h
            obtain ⟨h1, h2⟩ := parse_take f (r.drop (7 * b.toNat)) (k - 7 * b.toNat) x' y' (by simp at hf ⊢; omega) hx' hy'
            subst hx h
            rw [evsOf_take r k _ hk]
            refine ⟨by simp; omega, ?_⟩
            simp only [List.length_cons, List.take_succ_cons]
            rw [← h2]
end Go.Proofs.YtcaojfapibkplaaGreatDoor
namespace Go.Proofs.YtcaojfapibkplaaGreatDoor
open Go Go.Sl Go.En

theorem law18_awake (F : Frm) : FnOk Tryz.prog 5 [] [] F (fun r H => r = .bool true ∧ H = []) := by
  refine Sl.FnOk.of (κ := []) Go.Proofs.Tryz.func5 rfl rfl Go.Proofs.Tryz.ntmps5 rfl rfl ?_
  refine Sl.Tr.seq ?_
  refine Sl.Tr.region ?_
  refine Sl.G.ro (Sl.RO.rd (Sl.RO.assign rfl)) rfl ?_
  refine Sl.G.nil ?_
  refine Sl.Post.thenN ?_
  refine Sl.Tr.seq ?_
  refine Sl.Tr.region ?_
  refine Sl.G.call rfl rfl .n (.c .n) .n (fun G' hle hhas => Go.Proofs.YtcaojfapibkplaaGreatDoor.play_awake  ..) rfl (fun v K hR => ?_)
  obtain ⟨rfl, rfl⟩ := hR
  refine Sl.G.app .n ?_
  refine Sl.G.ro (Sl.RO.rd (Sl.RO.move rfl)) rfl ?_
  refine Sl.G.ro (Sl.RO.rd (Sl.RO.extractL rfl rfl)) rfl ?_
  refine Sl.G.ro (Sl.RO.rd (Sl.RO.extractL rfl rfl)) rfl ?_
  refine Sl.G.ro (Sl.RO.rd (Sl.RO.assign rfl)) rfl ?_
  refine Sl.G.ro (Sl.RO.rd (Sl.RO.assign rfl)) rfl ?_
  refine Sl.G.nil ?_
  refine Sl.Post.thenN ?_
  refine Sl.Tr.seq ?_
  refine Sl.Tr.region ?_
  refine Sl.G.ro (Sl.RO.rd (Sl.RO.move rfl)) rfl ?_
  refine Sl.G.cmp (Sl.RO.eqlStr rfl rfl) rfl (fun hc0 => ?_) (fun hc0 => ?_)
  refine Sl.G.ro (Sl.RO.rd (Sl.RO.move rfl)) rfl ?_
  refine Sl.G.un rfl ?_
  refine Sl.G.ro (Sl.RO.rd (Sl.RO.move rfl)) rfl ?_
  refine Sl.G.un rfl ?_
  refine Sl.G.ro (Sl.RO.rd (Sl.RO.bT (Sl.RO.eql rfl rfl) (by decide))) rfl ?_
  refine Sl.G.ro (Sl.RO.rd (Sl.RO.pickT rfl rfl)) rfl ?_
  refine Sl.G.ro (Sl.RO.rd (Sl.RO.assign rfl)) rfl ?_
  refine Sl.G.nil ?_
  refine Sl.Post.thenN ?_
  refine Sl.Tr.ret ?_
  rotate_left
  refine Sl.G.ro (Sl.RO.rd (Sl.RO.move rfl)) rfl ?_
  refine Sl.G.pass rfl rfl ?_
  refine Sl.G.pass rfl rfl ?_
  refine Sl.G.ro (Sl.RO.rd (Sl.RO.pickF rfl rfl)) rfl ?_
  refine Sl.G.ro (Sl.RO.rd (Sl.RO.assign rfl)) rfl ?_
  refine Sl.G.nil ?_
  refine Sl.Post.thenN ?_
  refine Sl.Tr.ret ?_
  rotate_left
  · refine Sl.Post.fin rfl (.tmp rfl .nil) rfl .n ?_ (.inl rfl)
    exact ⟨rfl, rfl⟩
  · exact absurd rfl (by assumption)

/-- the law's arguments: replies, whatever their events -/
structure RepsG (F : Frm) (p : Option Addr) (c : Nat) (l : List RepV) : Prop where
  row : ∃ T, F.has (sA T 2 RepV.cells p c l)
  evs : ∀ r ∈ l, ∃ T, F.has (sA T 3 En.Event.cells r.p r.c r.ev)
theorem law_ScriptBytes (F : Frm) (p : Option Addr) (c : Nat) (l : List RepV) (s : List UInt8) (hl : RepsG F p c l) (hm : l.length ≤ 9223372036854775807 ∧ (∀ r ∈ l, r.ev.length ≤ 9223372036854775807) ∧ s.length ≤ 9223372036854775807) : FnOk Tryz.prog 3 [.slice p l.length c, str s] [] F (fun r H => r = .bool true ∧ H = []) := by
  obtain ⟨hm1, hm2, hm3⟩ := hm
  obtain ⟨T1, hrow⟩ := hl.row
  refine Sl.FnOk.of (κ := [(0, _), (1, _)]) Go.Proofs.Tryz.func3 rfl rfl Go.Proofs.Tryz.ntmps3 rfl rfl ?_
  refine Sl.Tr.seq ?_
  refine Sl.Tr.region ?_
  refine Sl.G.ro (Sl.RO.rd (Sl.RO.assign rfl)) rfl ?_
  refine Sl.G.nil ?_
  refine Sl.Post.thenN ?_
  refine Sl.Tr.seq ?_
  refine Sl.Tr.seq ?_
  refine Sl.Tr.region ?_
  refine Sl.G.call rfl rfl .n .n .n (fun G' hle hhas => Go.Proofs.YtcaojfapibkplaaGreatDoor.law18_awake  ..) rfl (fun v K hR => ?_)
  obtain ⟨rfl, rfl⟩ := hR
  refine Sl.G.app .n ?_
  refine Sl.G.ro (Sl.RO.rd (Sl.RO.notL (c := false) rfl rfl)) rfl ?_
  refine Sl.G.nil ?_
  refine Sl.Post.thenN ?_
  refine Sl.Tr.condF rfl ?_
  refine Sl.Tr.skip ?_
  refine Sl.Post.thenN ?_
  refine Sl.Tr.seq ?_
  refine Sl.Tr.seq ?_
  refine Sl.Tr.region ?_
  refine Sl.G.ro (Sl.RO.rd (Sl.RO.move rfl)) rfl ?_
  refine Sl.G.ro (Sl.RO.rd (Sl.RO.lenSl rfl sl_22)) rfl ?_
  refine Sl.G.cmp (Sl.RO.gtr rfl rfl) rfl (fun hc0 => ?_) (fun hc0 => ?_)
  refine Sl.G.ro (Sl.RO.rd (Sl.RO.move rfl)) rfl ?_
  refine Sl.G.pass rfl rfl ?_
  refine Sl.G.pass rfl rfl ?_
  refine Sl.G.pass rfl rfl ?_
  refine Sl.G.ro (Sl.RO.rd (Sl.RO.pickT rfl rfl)) rfl ?_
  refine Sl.G.nil ?_
  refine Sl.Post.thenN ?_
  refine Sl.Tr.condT rfl ?_
  refine Sl.Tr.seq ?_
  refine Sl.Tr.region ?_
  refine Sl.G.ro (Sl.RO.rd (Sl.RO.assign rfl)) rfl ?_
  refine Sl.G.nil ?_
  refine Sl.Post.thenN ?_
  refine Sl.Tr.ret ?_
  refine Sl.Post.thenR ?_
  rotate_left
  refine Sl.G.ro (Sl.RO.rd (Sl.RO.move rfl)) rfl ?_
  refine Sl.G.un rfl ?_
  refine Sl.G.ro (Sl.RO.rd (Sl.RO.move rfl)) rfl ?_
  refine Sl.G.un rfl ?_
  refine Sl.G.ro (Sl.RO.rd (Sl.RO.lenStr rfl st_9)) rfl ?_
  refine Sl.G.un rfl ?_
  refine Sl.G.cmp (Sl.RO.gtr rfl rfl) rfl (fun hc1 => ?_) (fun hc1 => ?_)
  refine Sl.G.ro (Sl.RO.rd (Sl.RO.pickF rfl rfl)) rfl ?_
  refine Sl.G.nil ?_
  refine Sl.Post.thenN ?_
  refine Sl.Tr.condT rfl ?_
  refine Sl.Tr.seq ?_
  refine Sl.Tr.region ?_
  refine Sl.G.ro (Sl.RO.rd (Sl.RO.assign rfl)) rfl ?_
  refine Sl.G.nil ?_
  refine Sl.Post.thenN ?_
  refine Sl.Tr.ret ?_
  refine Sl.Post.thenR ?_
  rotate_left
  refine Sl.G.ro (Sl.RO.rd (Sl.RO.pickF rfl rfl)) rfl ?_
  refine Sl.G.nil ?_
  refine Sl.Post.thenN ?_
  refine Sl.Tr.condF rfl ?_
  refine Sl.Tr.skip ?_
  refine Sl.Post.thenN ?_
  refine Sl.Tr.seq ?_
  refine Sl.Tr.seq ?_
  refine Sl.Tr.region ?_
  refine Sl.G.ro (Sl.RO.rd (Sl.RO.assign rfl)) rfl ?_
  refine Sl.G.nil ?_
  refine Sl.Post.thenN ?_
  refine Sl.Tr.block ?_
  rotate_left
  · refine Sl.Post.fin rfl (.tmp rfl .nil) rfl .n ?_ (.inl rfl)
    exact ⟨rfl, rfl⟩
  · refine Sl.Post.fin rfl (.tmp rfl .nil) rfl .n ?_ (.inl rfl)
    exact ⟨rfl, rfl⟩
  · refine Sl.Tr.loop (α := Nat) (fun i => [(5, .int .i64 (i : Nat))]) [(19, _), (18, _), (17, _), (16, _), (15, _), (14, _), (13, _), (12, _), (11, _), (10, _), (0, _), (1, _)] (fun _ => []) [] (fun i => i ≤ l.length ∧ ∀ r ∈ l.take i, r.ev.length ≤ 600) (fun i => l.length - i) (0) ?_ ⟨rfl, trivial⟩ ⟨rfl, rfl, rfl, rfl, rfl, rfl, rfl, rfl, rfl, rfl, rfl, rfl, trivial⟩ .o ?_
    · exact ⟨Nat.zero_le _, by simp⟩
    rintro i ⟨hi, he⟩
    dsimp only [List.cons_append, List.nil_append]
    (try dsimp only at *)
    rcases Nat.lt_or_ge i l.length with hil | hil
    · obtain ⟨r, hr⟩ := get_lt (l := l) (i := i) hil
      have hrl := hm2 r (List.mem_of_getElem? hr)
      obtain ⟨T2, hrev⟩ := hl.evs r (List.mem_of_getElem? hr)
      refine Sl.Tr.seq ?_
      refine Sl.Tr.seq ?_
      refine Sl.Tr.region ?_
      refine Sl.G.ro (Sl.RO.rd (Sl.RO.move rfl)) rfl ?_
      refine Sl.G.ro (Sl.RO.rd (Sl.RO.move rfl)) rfl ?_
      refine Sl.G.ro (Sl.RO.rd (Sl.RO.lenSl rfl sl_22)) rfl ?_
      refine Sl.G.ro (Sl.RO.rd (Sl.RO.bT (Sl.RO.lss rfl rfl) (by omega))) rfl ?_
      refine Sl.G.nil ?_
      refine Sl.Post.thenN ?_
      refine Sl.Tr.condT rfl ?_
      refine Sl.Tr.skip ?_
      refine Sl.Post.thenN ?_
      refine Sl.Tr.seq ?_
      refine Sl.Tr.block ?_
      refine Sl.Tr.seq ?_
      refine Sl.Tr.region ?_
      refine Sl.G.ro (Sl.RO.rd (Sl.RO.move rfl)) rfl ?_
      refine Sl.G.ro (Sl.RO.rd (Sl.RO.move rfl)) rfl ?_
      refine Sl.G.ro (Sl.RO.rd (Sl.RO.atEl rfl rfl sl_22 hrow (by assumption))) rfl ?_
      refine Sl.G.ro (Sl.RO.rd (Sl.RO.fieldEl rfl hrow (by assumption) fo_27_1)) rfl ?_
      refine Sl.G.ro (Sl.RO.rd (Sl.RO.loadEp1 rfl hrow (by assumption) ly_25 rfl)) rfl ?_
      refine Sl.G.ro (Sl.RO.rd (Sl.RO.lenSl rfl sl_25)) rfl ?_
      refine Sl.G.cmp (Sl.RO.gtr rfl rfl) rfl (fun hc2 => ?_) (fun hc2 => ?_)
      refine Sl.G.nil ?_
      refine Sl.Post.thenN ?_
      refine Sl.Tr.condT rfl ?_
      refine Sl.Tr.seq ?_
      refine Sl.Tr.region ?_
      refine Sl.G.ro (Sl.RO.rd (Sl.RO.assign rfl)) rfl ?_
      refine Sl.G.nil ?_
      refine Sl.Post.thenN ?_
      refine Sl.Tr.ret ?_
      refine Sl.Post.blockR ?_
      refine Sl.Post.thenR ?_
      refine Sl.Post.thenR ?_
      refine Sl.Post.blockR ?_
      refine Sl.Post.thenR ?_
      rotate_left
      refine Sl.G.nil ?_
      refine Sl.Post.thenN ?_
      refine Sl.Tr.condF rfl ?_
      refine Sl.Tr.skip ?_
      refine Sl.Post.blockN ?_
      refine Sl.Post.thenN ?_
      refine Sl.Tr.region ?_
      refine Sl.G.ro (Sl.RO.rd (Sl.RO.move rfl)) rfl ?_
      refine Sl.G.ro (Sl.RO.rd (Sl.RO.addI rfl rfl (by omega))) rfl ?_
      refine Sl.G.ro (Sl.RO.rd (Sl.RO.assign rfl)) rfl ?_
      refine Sl.G.nil ?_
      rotate_left
      · refine Sl.Post.fin rfl (.tmp rfl .nil) rfl .n ?_ (.inl rfl)
        exact ⟨rfl, rfl⟩
      · refine Sl.Post.again (i + 1) ?_ ?_ ?_ ?_ ?_
        rotate_left
        · omega
        · exact ⟨rfl, trivial⟩
        · exact ⟨rfl, rfl, rfl, rfl, rfl, rfl, rfl, rfl, rfl, rfl, rfl, rfl, trivial⟩
        · exact .o
        refine ⟨by omega, ?_⟩
        rw [take_succ' hr]
        intro y hy
        rcases List.mem_append.1 hy with h | h
        · exact he y h
        · simp at h; subst h; omega
    · obtain rfl : i = l.length := by omega
      rw [List.take_length] at he
      have hB := bytesB_len l
      refine Sl.Tr.seq ?_
      refine Sl.Tr.seq ?_
      refine Sl.Tr.region ?_
      refine Sl.G.ro (Sl.RO.rd (Sl.RO.move rfl)) rfl ?_
      refine Sl.G.ro (Sl.RO.rd (Sl.RO.move rfl)) rfl ?_
      refine Sl.G.ro (Sl.RO.rd (Sl.RO.lenSl rfl sl_22)) rfl ?_
      refine Sl.G.ro (Sl.RO.rd (Sl.RO.bF (Sl.RO.lss rfl rfl) (by omega))) rfl ?_
      refine Sl.G.nil ?_
      refine Sl.Post.thenN ?_
      refine Sl.Tr.condF rfl ?_
      refine Sl.Tr.exit ?_
      refine Sl.Post.thenE ?_
      refine Sl.Post.thenE ?_
      refine Sl.Post.blockE ?_
      refine Sl.Post.thenN ?_
      refine Sl.Tr.seq ?_
      refine Sl.Tr.region ?_
      refine Sl.G.ro (Sl.RO.rd (Sl.RO.move rfl)) rfl ?_
      refine Sl.G.call rfl rfl .n (.c .n) .n (fun G' hle hhas => Go.Proofs.YtcaojfapibkplaaGreatDoor.script_Replies (hl := (by omega)) ..) rfl (fun v K hR => ?_)
      refine Sl.G.ro (Sl.RO.rd (Sl.RO.move rfl)) rfl ?_
      rcases hR with ⟨p2, c2, l2, rfl, rfl, hp2⟩ | ⟨hp2, rfl, rfl⟩
      · refine Sl.G.app (.c (.c .n)) ?_
        refine Sl.G.ro (Sl.RO.rd (Sl.RO.extractL rfl rfl)) rfl ?_
        refine Sl.G.ro (Sl.RO.rd (Sl.RO.extractL rfl rfl)) rfl ?_
        refine Sl.G.ro (Sl.RO.rd (Sl.RO.assign rfl)) rfl ?_
        refine Sl.G.ro (Sl.RO.rd (Sl.RO.assign rfl)) rfl ?_
        refine Sl.G.nil ?_
        refine Sl.Post.thenN ?_
        refine Sl.Tr.seq ?_
        refine Sl.Tr.region ?_
        refine Sl.G.ro (Sl.RO.rd (Sl.RO.move rfl)) rfl ?_
        refine Sl.G.call rfl rfl .n (.c .n) .n (fun G' hle hhas => Go.Proofs.YtcaojfapibkplaaGreatDoor.ref_Replies (hl := (by omega)) ..) rfl (fun v K hR => ?_)
        refine Sl.G.ro (Sl.RO.rd (Sl.RO.move rfl)) rfl ?_
        skip
        rcases hR with ⟨p3, c3, l3, rfl, rfl, hp3⟩ | ⟨hp3, rfl, rfl⟩
        · refine Sl.G.app (.c (.c .n)) ?_
          refine Sl.G.ro (Sl.RO.rd (Sl.RO.extractL rfl rfl)) rfl ?_
          refine Sl.G.ro (Sl.RO.rd (Sl.RO.extractL rfl rfl)) rfl ?_
          refine Sl.G.ro (Sl.RO.rd (Sl.RO.assign rfl)) rfl ?_
          refine Sl.G.ro (Sl.RO.rd (Sl.RO.assign rfl)) rfl ?_
          refine Sl.G.nil ?_
          refine Sl.Post.thenN ?_
          refine Sl.Tr.seq ?_
          refine Sl.Tr.seq ?_
          refine Sl.Tr.region ?_
          refine Sl.G.ro (Sl.RO.rd (Sl.RO.move rfl)) rfl ?_
          have hpb2 := parse_bytes _ s _ (Nat.le_refl _) hp2
          have hpb3 := parse_bytes _ s _ (Nat.le_refl _) hp3
          have he2 : ∀ r ∈ l2, r.ev.length ≤ 1000 := fun r hr => by have h : r.ev.length ≤ 255 := hpb2.2.2 (RepV.pure r) (List.mem_map_of_mem hr); omega
          have he3 : ∀ r ∈ l3, r.ev.length ≤ 1000 := fun r hr => by have h : r.ev.length ≤ 255 := hpb3.2.2 (RepV.pure r) (List.mem_map_of_mem hr); omega
          have hl2 := hpb2.2.1
          rw [List.length_map] at hl2
          have hb2 : bytesB l2 = s := by rw [bytesB_P]; exact hpb2.1
          have hsame : l2.map RepV.pure = l3.map RepV.pure := by rw [hp2] at hp3; exact Option.some.inj hp3
          refine Sl.G.call rfl rfl .n (.c .n) .n (fun G' hle hhas => script_Bytes (l := l) (hv := (⟨⟨_, Sl.Frm.has_mono hrow hle⟩, fun r hr => ⟨(hl.evs r hr).imp fun _ h => Sl.Frm.has_mono h hle, by have := he r hr; omega⟩⟩)) (hl := (by omega)) (hl2 := (by omega)) ..) rfl (fun v K hR => ?_)
          obtain ⟨rfl, rfl⟩ := hR
          refine Sl.G.app .n ?_
          refine Sl.G.ro (Sl.RO.rd (Sl.RO.move rfl)) rfl ?_
          refine Sl.G.call rfl rfl .n (.c .n) .n (fun G' hle hhas => ref_Bytes (l := l) (hv := (⟨⟨_, Sl.Frm.has_mono hrow hle⟩, fun r hr => ⟨(hl.evs r hr).imp fun _ h => Sl.Frm.has_mono h hle, by have := he r hr; omega⟩⟩)) (hl := (by omega)) (hl2 := (by omega)) ..) rfl (fun v K hR => ?_)
          obtain ⟨rfl, rfl⟩ := hR
          refine Sl.G.app .n ?_
          refine Sl.G.cmpn (Sl.RO.neqStr rfl rfl) rfl (fun hc3 => ?_) (fun hc3 => ?_)
          refine Sl.G.ro (Sl.RO.rd (Sl.RO.move rfl)) rfl ?_
          refine Sl.G.pass rfl rfl ?_
          refine Sl.G.pass rfl rfl ?_
          refine Sl.G.pass rfl rfl ?_
          refine Sl.G.pass rfl rfl ?_
          refine Sl.G.ro (Sl.RO.rd (Sl.RO.pickT rfl rfl)) rfl ?_
          refine Sl.G.ro (Sl.RO.rd (Sl.RO.move rfl)) rfl ?_
          refine Sl.G.pass rfl rfl ?_
          refine Sl.G.pass rfl rfl ?_
          refine Sl.G.pass rfl rfl ?_
          refine Sl.G.ro (Sl.RO.rd (Sl.RO.pickT rfl rfl)) rfl ?_
          refine Sl.G.nil ?_
          refine Sl.Post.thenN ?_
          refine Sl.Tr.condT rfl ?_
          refine Sl.Tr.seq ?_
          refine Sl.Tr.region ?_
          refine Sl.G.ro (Sl.RO.rd (Sl.RO.assign rfl)) rfl ?_
          refine Sl.G.nil ?_
          refine Sl.Post.thenN ?_
          refine Sl.Tr.ret ?_
          refine Sl.Post.thenR ?_
          rotate_left
          refine Sl.G.ro (Sl.RO.rd (Sl.RO.move rfl)) rfl ?_
          refine Sl.G.un rfl ?_
          refine Sl.G.ro (Sl.RO.rd (Sl.RO.move rfl)) rfl ?_
          refine Sl.G.un rfl ?_
          refine Sl.G.ro (Sl.RO.rd (Sl.RO.move rfl)) rfl ?_
          refine Sl.G.un rfl ?_
          rotate_left
          · exact absurd rfl (by assumption)
          refine Sl.G.call rfl rfl .n (.c (.c .n)) .n (fun G' hle hhas => Same_Replies (l := l2) (m := l3) (hl := (⟨hhas _ (Sl.memAt 2 rfl), fun r hr => ⟨Sl.Frm.has_mem (hhas _ (Sl.memAt 3 rfl)) (List.mem_map_of_mem (f := RepV.evA 41) hr), he2 r hr⟩⟩)) (hm := (⟨hhas _ (Sl.memAt 0 rfl), fun r hr => ⟨Sl.Frm.has_mem (hhas _ (Sl.memAt 1 rfl)) (List.mem_map_of_mem (f := RepV.evA 41) hr), he3 r hr⟩⟩)) (hn := (by omega)) ..) rfl (fun v K hR => ?_)
          obtain ⟨rfl, rfl⟩ := hR
          refine Sl.G.app .n ?_
          refine Sl.G.un rfl ?_
          refine Sl.G.ro (Sl.RO.rd (Sl.RO.not rfl)) rfl ?_
          refine Sl.G.ro (Sl.RO.rd (Sl.RO.pickF rfl rfl)) rfl ?_
          refine Sl.G.ro (Sl.RO.rd (Sl.RO.move rfl)) rfl ?_
          refine Sl.G.as 54 (.bool false) rfl ?_ ?_
          · rw [decide_eq_true hsame]; rfl
          refine Sl.G.un rfl ?_
          refine Sl.G.ro (Sl.RO.rd (Sl.RO.move rfl)) rfl ?_
          refine Sl.G.un rfl ?_
          refine Sl.G.ro (Sl.RO.rd (Sl.RO.move rfl)) rfl ?_
          refine Sl.G.un rfl ?_
          refine Sl.G.ro (Sl.RO.rd (Sl.RO.nF (Sl.RO.neq rfl rfl) (by decide))) rfl ?_
          refine Sl.G.ro (Sl.RO.rd (Sl.RO.pickF rfl rfl)) rfl ?_
          refine Sl.G.nil ?_
          refine Sl.Post.thenN ?_
          refine Sl.Tr.condF rfl ?_
          refine Sl.Tr.skip ?_
          refine Sl.Post.thenN ?_
          refine Sl.Tr.seq ?_
          refine Sl.Tr.region ?_
          refine Sl.G.ro (Sl.RO.rd (Sl.RO.move rfl)) rfl ?_
          refine Sl.G.ro (Sl.RO.rd (Sl.RO.nF (Sl.RO.neq rfl rfl) (by decide))) rfl ?_
          refine Sl.G.ro (Sl.RO.rd (Sl.RO.move rfl)) rfl ?_
          refine Sl.G.un rfl ?_
          refine Sl.G.ro (Sl.RO.rd (Sl.RO.move rfl)) rfl ?_
          refine Sl.G.un rfl ?_
          refine Sl.G.call rfl rfl .n (.c .n) .n (fun G' hle hhas => script_Bytes (l := l2) (hv := (⟨⟨_, hhas _ (Sl.memAt 2 rfl)⟩, fun r hr => ⟨⟨_, Sl.Frm.has_mem (hhas _ (Sl.memAt 3 rfl)) (List.mem_map_of_mem (f := RepV.evA 41) hr)⟩, he2 r hr⟩⟩)) (hl := ((by rw [hb2]; omega))) (hl2 := ((by omega))) ..) rfl (fun v K hR => ?_)
          obtain ⟨rfl, rfl⟩ := hR
          refine Sl.G.app .n ?_
          refine Sl.G.un rfl ?_
          refine Sl.G.ro (Sl.RO.rd (Sl.RO.move rfl)) rfl ?_
          refine Sl.G.un rfl ?_
          refine Sl.G.cmp (Sl.RO.eqlStr rfl rfl) rfl (fun hc4 => ?_) (fun hc4 => ?_)
          refine Sl.G.ro (Sl.RO.rd (Sl.RO.pickF rfl rfl)) rfl ?_
          refine Sl.G.ro (Sl.RO.rd (Sl.RO.assign rfl)) rfl ?_
          refine Sl.G.nil ?_
          refine Sl.Post.thenN ?_
          refine Sl.Tr.ret ?_
          rotate_left
          refine Sl.G.ro (Sl.RO.rd (Sl.RO.pickF rfl rfl)) rfl ?_
          refine Sl.G.ro (Sl.RO.rd (Sl.RO.assign rfl)) rfl ?_
          refine Sl.G.nil ?_
          refine Sl.Post.thenN ?_
          refine Sl.Tr.ret ?_
          rotate_left
          · refine Sl.Post.fin rfl (.tmp rfl .nil) rfl .n ?_ (.inl rfl)
            exact ⟨rfl, rfl⟩
          · exact absurd hb2 (by assumption)
        · rw [hp2] at hp3; cases hp3
      · refine Sl.G.app .n ?_
        refine Sl.G.ro (Sl.RO.rd (Sl.RO.extractL rfl rfl)) rfl ?_
        refine Sl.G.ro (Sl.RO.rd (Sl.RO.extractL rfl rfl)) rfl ?_
        refine Sl.G.ro (Sl.RO.rd (Sl.RO.assign rfl)) rfl ?_
        refine Sl.G.ro (Sl.RO.rd (Sl.RO.assign rfl)) rfl ?_
        refine Sl.G.nil ?_
        refine Sl.Post.thenN ?_
        refine Sl.Tr.seq ?_
        refine Sl.Tr.region ?_
        refine Sl.G.ro (Sl.RO.rd (Sl.RO.move rfl)) rfl ?_
        refine Sl.G.call rfl rfl .n (.c .n) .n (fun G' hle hhas => Go.Proofs.YtcaojfapibkplaaGreatDoor.ref_Replies (hl := (by omega)) ..) rfl (fun v K hR => ?_)
        refine Sl.G.ro (Sl.RO.rd (Sl.RO.move rfl)) rfl ?_
        skip
        rcases hR with ⟨p3, c3, l3, rfl, rfl, hp3⟩ | ⟨hp3, rfl, rfl⟩
        · rw [hp2] at hp3; cases hp3
        · refine Sl.G.app .n ?_
          refine Sl.G.ro (Sl.RO.rd (Sl.RO.extractL rfl rfl)) rfl ?_
          refine Sl.G.ro (Sl.RO.rd (Sl.RO.extractL rfl rfl)) rfl ?_
          refine Sl.G.ro (Sl.RO.rd (Sl.RO.assign rfl)) rfl ?_
          refine Sl.G.ro (Sl.RO.rd (Sl.RO.assign rfl)) rfl ?_
          refine Sl.G.nil ?_
          refine Sl.Post.thenN ?_
          refine Sl.Tr.seq ?_
          refine Sl.Tr.seq ?_
          refine Sl.Tr.region ?_
          refine Sl.G.ro (Sl.RO.rd (Sl.RO.move rfl)) rfl ?_
          refine Sl.G.call rfl rfl .n (.c .n) .n (fun G' hle hhas => script_Bytes (l := l) (hv := (⟨⟨_, Sl.Frm.has_mono hrow hle⟩, fun r hr => ⟨(hl.evs r hr).imp fun _ h => Sl.Frm.has_mono h hle, by have := he r hr; omega⟩⟩)) (hl := (by omega)) (hl2 := (by omega)) ..) rfl (fun v K hR => ?_)
          obtain ⟨rfl, rfl⟩ := hR
          refine Sl.G.app .n ?_
          refine Sl.G.ro (Sl.RO.rd (Sl.RO.move rfl)) rfl ?_
          refine Sl.G.call rfl rfl .n (.c .n) .n (fun G' hle hhas => ref_Bytes (l := l) (hv := (⟨⟨_, Sl.Frm.has_mono hrow hle⟩, fun r hr => ⟨(hl.evs r hr).imp fun _ h => Sl.Frm.has_mono h hle, by have := he r hr; omega⟩⟩)) (hl := (by omega)) (hl2 := (by omega)) ..) rfl (fun v K hR => ?_)
          obtain ⟨rfl, rfl⟩ := hR
          refine Sl.G.app .n ?_
          refine Sl.G.cmpn (Sl.RO.neqStr rfl rfl) rfl (fun hc5 => ?_) (fun hc5 => ?_)
          refine Sl.G.ro (Sl.RO.rd (Sl.RO.move rfl)) rfl ?_
          refine Sl.G.pass rfl rfl ?_
          refine Sl.G.pass rfl rfl ?_
          refine Sl.G.pass rfl rfl ?_
          refine Sl.G.pass rfl rfl ?_
          refine Sl.G.ro (Sl.RO.rd (Sl.RO.pickT rfl rfl)) rfl ?_
          refine Sl.G.ro (Sl.RO.rd (Sl.RO.move rfl)) rfl ?_
          refine Sl.G.pass rfl rfl ?_
          refine Sl.G.pass rfl rfl ?_
          refine Sl.G.pass rfl rfl ?_
          refine Sl.G.ro (Sl.RO.rd (Sl.RO.pickT rfl rfl)) rfl ?_
          refine Sl.G.nil ?_
          refine Sl.Post.thenN ?_
          refine Sl.Tr.condT rfl ?_
          refine Sl.Tr.seq ?_
          refine Sl.Tr.region ?_
          refine Sl.G.ro (Sl.RO.rd (Sl.RO.assign rfl)) rfl ?_
          refine Sl.G.nil ?_
          refine Sl.Post.thenN ?_
          refine Sl.Tr.ret ?_
          refine Sl.Post.thenR ?_
          rotate_left
          refine Sl.G.ro (Sl.RO.rd (Sl.RO.move rfl)) rfl ?_
          refine Sl.G.un rfl ?_
          refine Sl.G.ro (Sl.RO.rd (Sl.RO.move rfl)) rfl ?_
          refine Sl.G.un rfl ?_
          refine Sl.G.ro (Sl.RO.rd (Sl.RO.move rfl)) rfl ?_
          refine Sl.G.un rfl ?_
          rotate_left
          · exact absurd rfl (by assumption)
          refine Sl.G.nilS 27 2 RepV.cells ?_
          refine Sl.G.call rfl rfl .n (.c (.c .n)) .n (fun G' hle hhas => Same_Replies (l := []) (m := []) (hl := (⟨hhas _ (Sl.memAt 0 rfl), fun r hr => (by cases hr)⟩)) (hm := (⟨hhas _ (Sl.memAt 0 rfl), fun r hr => (by cases hr)⟩)) (hn := (by decide)) ..) rfl (fun v K hR => ?_)
          obtain ⟨rfl, rfl⟩ := hR
          refine Sl.G.app .n ?_
          refine Sl.G.un rfl ?_
          refine Sl.G.ro (Sl.RO.rd (Sl.RO.notL (c := false) rfl rfl)) rfl ?_
          refine Sl.G.ro (Sl.RO.rd (Sl.RO.pickF rfl rfl)) rfl ?_
          refine Sl.G.ro (Sl.RO.rd (Sl.RO.move rfl)) rfl ?_
          refine Sl.G.un rfl ?_
          refine Sl.G.ro (Sl.RO.rd (Sl.RO.move rfl)) rfl ?_
          refine Sl.G.un rfl ?_
          refine Sl.G.ro (Sl.RO.rd (Sl.RO.move rfl)) rfl ?_
          refine Sl.G.un rfl ?_
          refine Sl.G.ro (Sl.RO.rd (Sl.RO.nF (Sl.RO.neq rfl rfl) (by decide))) rfl ?_
          refine Sl.G.ro (Sl.RO.rd (Sl.RO.pickF rfl rfl)) rfl ?_
          refine Sl.G.nil ?_
          refine Sl.Post.thenN ?_
          refine Sl.Tr.condF rfl ?_
          refine Sl.Tr.skip ?_
          refine Sl.Post.thenN ?_
          refine Sl.Tr.seq ?_
          refine Sl.Tr.region ?_
          refine Sl.G.ro (Sl.RO.rd (Sl.RO.move rfl)) rfl ?_
          refine Sl.G.ro (Sl.RO.rd (Sl.RO.nT (Sl.RO.neq rfl rfl) (by decide))) rfl ?_
          refine Sl.G.ro (Sl.RO.rd (Sl.RO.move rfl)) rfl ?_
          refine Sl.G.pass rfl rfl ?_
          refine Sl.G.pass rfl rfl ?_
          refine Sl.G.pass rfl rfl ?_
          refine Sl.G.pass rfl rfl ?_
          refine Sl.G.ro (Sl.RO.rd (Sl.RO.pickT rfl rfl)) rfl ?_
          refine Sl.G.ro (Sl.RO.rd (Sl.RO.assign rfl)) rfl ?_
          refine Sl.G.nil ?_
          refine Sl.Post.thenN ?_
          refine Sl.Tr.ret ?_
          refine Sl.Post.fin rfl (.tmp rfl .nil) rfl .n ?_ (.inl rfl)
          exact ⟨rfl, rfl⟩
end Go.Proofs.YtcaojfapibkplaaGreatDoor
namespace Go.Proofs.YtcaojfapibkplaaGreatDoor
open Go Go.Sl Go.En

theorem law_ScriptParts (F : Frm) (p p' : Option Addr) (c c' : Nat) (l m : List RepV) (cut : Int) (hl : RepsG F p c l) (hk : RepsG F p' c' m) (hm : l.length ≤ 9223372036854775807 ∧ (∀ r ∈ l, r.ev.length ≤ 9223372036854775807) ∧ m.length ≤ 9223372036854775807 ∧ (∀ r ∈ m, r.ev.length ≤ 9223372036854775807)) :
    FnOk Tryz.prog 4 [.slice p l.length c, .slice p' m.length c', .int .i64 cut] [] F (fun r H => r = .bool true ∧ H = []) := by
  obtain ⟨hm1, hm2, hm3, hm4⟩ := hm
  obtain ⟨T1, hrl⟩ := hl.row
  obtain ⟨T3, hrm⟩ := hk.row
  refine Sl.FnOk.of (κ := [(0, _), (1, _), (2, _)]) Go.Proofs.Tryz.func4 rfl rfl Go.Proofs.Tryz.ntmps4 rfl rfl ?_
  refine Sl.Tr.seq ?_
  refine Sl.Tr.region ?_
  refine Sl.G.ro (Sl.RO.rd (Sl.RO.assign rfl)) rfl ?_
  refine Sl.G.nil ?_
  refine Sl.Post.thenN ?_
  refine Sl.Tr.seq ?_
  refine Sl.Tr.seq ?_
  refine Sl.Tr.region ?_
  refine Sl.G.call rfl rfl .n .n .n (fun G' hle hhas => Go.Proofs.YtcaojfapibkplaaGreatDoor.law18_awake  ..) rfl (fun v K hR => ?_)
  obtain ⟨rfl, rfl⟩ := hR
  refine Sl.G.app .n ?_
  refine Sl.G.ro (Sl.RO.rd (Sl.RO.notL (c := false) rfl rfl)) rfl ?_
  refine Sl.G.nil ?_
  refine Sl.Post.thenN ?_
  refine Sl.Tr.condF rfl ?_
  refine Sl.Tr.skip ?_
  refine Sl.Post.thenN ?_
  refine Sl.Tr.seq ?_
  refine Sl.Tr.seq ?_
  refine Sl.Tr.region ?_
  refine Sl.G.ro (Sl.RO.rd (Sl.RO.move rfl)) rfl ?_
  refine Sl.G.ro (Sl.RO.rd (Sl.RO.lenSl rfl sl_22)) rfl ?_
  refine Sl.G.cmp (Sl.RO.gtr rfl rfl) rfl (fun hc0 => ?_) (fun hc0 => ?_)
  refine Sl.G.ro (Sl.RO.rd (Sl.RO.move rfl)) rfl ?_
  refine Sl.G.pass rfl rfl ?_
  refine Sl.G.pass rfl rfl ?_
  refine Sl.G.pass rfl rfl ?_
  refine Sl.G.ro (Sl.RO.rd (Sl.RO.pickT rfl rfl)) rfl ?_
  refine Sl.G.nil ?_
  refine Sl.Post.thenN ?_
  refine Sl.Tr.condT rfl ?_
  refine Sl.Tr.seq ?_
  refine Sl.Tr.region ?_
  refine Sl.G.ro (Sl.RO.rd (Sl.RO.assign rfl)) rfl ?_
  refine Sl.G.nil ?_
  refine Sl.Post.thenN ?_
  refine Sl.Tr.ret ?_
  refine Sl.Post.thenR ?_
  rotate_left
  refine Sl.G.ro (Sl.RO.rd (Sl.RO.move rfl)) rfl ?_
  refine Sl.G.un rfl ?_
  refine Sl.G.ro (Sl.RO.rd (Sl.RO.move rfl)) rfl ?_
  refine Sl.G.un rfl ?_
  refine Sl.G.ro (Sl.RO.rd (Sl.RO.lenSl rfl sl_22)) rfl ?_
  refine Sl.G.un rfl ?_
  refine Sl.G.cmp (Sl.RO.gtr rfl rfl) rfl (fun hc1 => ?_) (fun hc1 => ?_)
  refine Sl.G.ro (Sl.RO.rd (Sl.RO.pickF rfl rfl)) rfl ?_
  refine Sl.G.nil ?_
  refine Sl.Post.thenN ?_
  refine Sl.Tr.condT rfl ?_
  refine Sl.Tr.seq ?_
  refine Sl.Tr.region ?_
  refine Sl.G.ro (Sl.RO.rd (Sl.RO.assign rfl)) rfl ?_
  refine Sl.G.nil ?_
  refine Sl.Post.thenN ?_
  refine Sl.Tr.ret ?_
  refine Sl.Post.thenR ?_
  rotate_left
  refine Sl.G.ro (Sl.RO.rd (Sl.RO.pickF rfl rfl)) rfl ?_
  refine Sl.G.nil ?_
  refine Sl.Post.thenN ?_
  refine Sl.Tr.condF rfl ?_
  refine Sl.Tr.skip ?_
  refine Sl.Post.thenN ?_
  refine Sl.Tr.seq ?_
  refine Sl.Tr.seq ?_
  refine Sl.Tr.region ?_
  refine Sl.G.ro (Sl.RO.rd (Sl.RO.assign rfl)) rfl ?_
  refine Sl.G.nil ?_
  refine Sl.Post.thenN ?_
  refine Sl.Tr.block ?_
  rotate_left
  · refine Sl.Post.fin rfl (.tmp rfl .nil) rfl .n ?_ (.inl rfl)
    exact ⟨rfl, rfl⟩
  · refine Sl.Post.fin rfl (.tmp rfl .nil) rfl .n ?_ (.inl rfl)
    exact ⟨rfl, rfl⟩
  · refine Sl.Tr.loop (α := Nat) (fun i => [(7, .int .i64 (i : Nat))]) [(25, _), (24, _), (23, _), (22, _), (21, _), (20, _), (19, _), (18, _), (17, _), (16, _), (0, _), (1, _), (2, _)] (fun _ => []) [] (fun i => i ≤ l.length + m.length ∧ ∀ r ∈ (l ++ m).take i, r.ev.length ≤ 300) (fun i => l.length + m.length - i) (0) ?_ ⟨rfl, trivial⟩ ⟨rfl, rfl, rfl, rfl, rfl, rfl, rfl, rfl, rfl, rfl, rfl, rfl, rfl, trivial⟩ .o ?_
    · exact ⟨Nat.zero_le _, by simp⟩
    rintro i ⟨hi, he⟩
    dsimp only [List.cons_append, List.nil_append]
    (try dsimp only at *)
    rcases Nat.lt_or_ge i (l.length + m.length) with hil | hil
    · rcases Nat.lt_or_ge i l.length with h1 | h1
      · obtain ⟨r, hr⟩ := get_lt (l := l) (i := i) h1
        have hrl2 := hm2 r (List.mem_of_getElem? hr)
        obtain ⟨T2, hrev⟩ := hl.evs r (List.mem_of_getElem? hr)
        have hlm : (l ++ m)[i]? = some r := by rw [List.getElem?_append_left h1]; exact hr
        refine Sl.Tr.seq ?_
        refine Sl.Tr.seq ?_
        refine Sl.Tr.region ?_
        refine Sl.G.ro (Sl.RO.rd (Sl.RO.move rfl)) rfl ?_
        refine Sl.G.ro (Sl.RO.rd (Sl.RO.move rfl)) rfl ?_
        refine Sl.G.ro (Sl.RO.rd (Sl.RO.lenSl rfl sl_22)) rfl ?_
        refine Sl.G.ro (Sl.RO.rd (Sl.RO.move rfl)) rfl ?_
        refine Sl.G.ro (Sl.RO.rd (Sl.RO.lenSl rfl sl_22)) rfl ?_
        refine Sl.G.ro (Sl.RO.rd (Sl.RO.addI rfl rfl (by omega))) rfl ?_
        refine Sl.G.ro (Sl.RO.rd (Sl.RO.bT (Sl.RO.lss rfl rfl) (by omega))) rfl ?_
        refine Sl.G.nil ?_
        refine Sl.Post.thenN ?_
        refine Sl.Tr.condT rfl ?_
        refine Sl.Tr.skip ?_
        refine Sl.Post.thenN ?_
        refine Sl.Tr.seq ?_
        refine Sl.Tr.block ?_
        refine Sl.Tr.seq ?_
        refine Sl.Tr.region ?_
        refine Sl.G.ro (Sl.RO.rd (Sl.RO.build pl_27 zv_27 rfl rfl)) rfl ?_
        refine Sl.G.alloc zv_27 rfl (fun b2 => ?_)
        refine Sl.G.store rfl rfl rfl rfl ly_27 rfl .h rfl ?_
        refine Sl.G.nil ?_
        refine Sl.Post.thenN ?_
        refine Sl.Tr.seq ?_
        refine Sl.Tr.seq ?_
        refine Sl.Tr.region ?_
        refine Sl.G.ro (Sl.RO.rd (Sl.RO.move rfl)) rfl ?_
        refine Sl.G.ro (Sl.RO.rd (Sl.RO.move rfl)) rfl ?_
        refine Sl.G.ro (Sl.RO.rd (Sl.RO.lenSl rfl sl_22)) rfl ?_
        refine Sl.G.ro (Sl.RO.rd (Sl.RO.bT (Sl.RO.lss rfl rfl) (by omega))) rfl ?_
        refine Sl.G.nil ?_
        refine Sl.Post.thenN ?_
        refine Sl.Tr.condT rfl ?_
        refine Sl.Tr.region ?_
        refine Sl.G.ro (Sl.RO.rd (Sl.RO.move rfl)) rfl ?_
        refine Sl.G.ro (Sl.RO.rd (Sl.RO.move rfl)) rfl ?_
        refine Sl.G.ro (Sl.RO.rd (Sl.RO.atEl rfl rfl sl_22 hrl (by assumption))) rfl ?_
        refine Sl.G.ro (Sl.RO.rd (Sl.RO.loadEp rfl hrl (by assumption) ly_27 rfl)) rfl ?_
        refine Sl.G.store rfl rfl rfl rfl ly_27 rfl .h rfl ?_
        refine Sl.G.nil ?_
        refine Sl.Post.thenN ?_
        refine Sl.Tr.seq ?_
        refine Sl.Tr.region ?_
        refine Sl.G.ro (Sl.RO.rd (Sl.RO.fieldAddr rfl fo_27_1)) rfl ?_
        refine Sl.G.ro (Sl.RD.load1 rfl .h ly_25 rfl) rfl ?_
        refine Sl.G.ro (Sl.RO.rd (Sl.RO.lenSl rfl sl_25)) rfl ?_
        refine Sl.G.cmp (Sl.RO.gtr rfl rfl) rfl (fun hc3 => ?_) (fun hc3 => ?_)
        refine Sl.G.nil ?_
        refine Sl.Post.thenN ?_
        refine Sl.Tr.condT rfl ?_
        refine Sl.Tr.seq ?_
        refine Sl.Tr.region ?_
        refine Sl.G.ro (Sl.RO.rd (Sl.RO.assign rfl)) rfl ?_
        refine Sl.G.nil ?_
        refine Sl.Post.thenN ?_
        refine Sl.Tr.ret ?_
        refine Sl.Post.blockR ?_
        refine Sl.Post.thenR ?_
        refine Sl.Post.thenR ?_
        refine Sl.Post.blockR ?_
        refine Sl.Post.thenR ?_
        rotate_left
        refine Sl.G.nil ?_
        refine Sl.Post.thenN ?_
        refine Sl.Tr.condF rfl ?_
        refine Sl.Tr.skip ?_
        refine Sl.Post.blockN ?_
        refine Sl.Post.thenN ?_
        refine Sl.Tr.region ?_
        refine Sl.G.ro (Sl.RO.rd (Sl.RO.move rfl)) rfl ?_
        refine Sl.G.ro (Sl.RO.rd (Sl.RO.addI rfl rfl (by omega))) rfl ?_
        refine Sl.G.ro (Sl.RO.rd (Sl.RO.assign rfl)) rfl ?_
        refine Sl.G.nil ?_
        rotate_left
        · refine Sl.Post.fin rfl (.tmp rfl .nil) rfl .n ?_ (.inl rfl)
          exact ⟨rfl, rfl⟩
        · refine Sl.Post.again (i + 1) ?_ ?_ ?_ ?_ ?_
          rotate_left
          · omega
          · exact ⟨rfl, trivial⟩
          · exact ⟨rfl, rfl, rfl, rfl, rfl, rfl, rfl, rfl, rfl, rfl, rfl, rfl, rfl, trivial⟩
          · exact .o
          refine ⟨by omega, ?_⟩
          rw [take_succ' hlm]
          intro y hy
          rcases List.mem_append.1 hy with h | h
          · exact he y h
          · simp at h; subst h; omega
      · obtain ⟨r, hr⟩ := get_lt (l := m) (i := i - l.length) (by omega)
        have hrl2 := hm4 r (List.mem_of_getElem? hr)
        obtain ⟨T2, hrev⟩ := hk.evs r (List.mem_of_getElem? hr)
        have hlm : (l ++ m)[i]? = some r := by rw [List.getElem?_append_right h1]; exact hr
        refine Sl.Tr.seq ?_
        refine Sl.Tr.seq ?_
        refine Sl.Tr.region ?_
        refine Sl.G.ro (Sl.RO.rd (Sl.RO.move rfl)) rfl ?_
        refine Sl.G.ro (Sl.RO.rd (Sl.RO.move rfl)) rfl ?_
        refine Sl.G.ro (Sl.RO.rd (Sl.RO.lenSl rfl sl_22)) rfl ?_
        refine Sl.G.ro (Sl.RO.rd (Sl.RO.move rfl)) rfl ?_
        refine Sl.G.ro (Sl.RO.rd (Sl.RO.lenSl rfl sl_22)) rfl ?_
        refine Sl.G.ro (Sl.RO.rd (Sl.RO.addI rfl rfl (by omega))) rfl ?_
        refine Sl.G.ro (Sl.RO.rd (Sl.RO.bT (Sl.RO.lss rfl rfl) (by omega))) rfl ?_
        refine Sl.G.nil ?_
        refine Sl.Post.thenN ?_
        refine Sl.Tr.condT rfl ?_
        refine Sl.Tr.skip ?_
        refine Sl.Post.thenN ?_
        refine Sl.Tr.seq ?_
        refine Sl.Tr.block ?_
        refine Sl.Tr.seq ?_
        refine Sl.Tr.region ?_
        refine Sl.G.ro (Sl.RO.rd (Sl.RO.build pl_27 zv_27 rfl rfl)) rfl ?_
        refine Sl.G.alloc zv_27 rfl (fun b4 => ?_)
        refine Sl.G.store rfl rfl rfl rfl ly_27 rfl .h rfl ?_
        refine Sl.G.nil ?_
        refine Sl.Post.thenN ?_
        refine Sl.Tr.seq ?_
        refine Sl.Tr.seq ?_
        refine Sl.Tr.region ?_
        refine Sl.G.ro (Sl.RO.rd (Sl.RO.move rfl)) rfl ?_
        refine Sl.G.ro (Sl.RO.rd (Sl.RO.move rfl)) rfl ?_
        refine Sl.G.ro (Sl.RO.rd (Sl.RO.lenSl rfl sl_22)) rfl ?_
        refine Sl.G.ro (Sl.RO.rd (Sl.RO.bF (Sl.RO.lss rfl rfl) (by omega))) rfl ?_
        refine Sl.G.nil ?_
        refine Sl.Post.thenN ?_
        refine Sl.Tr.condF rfl ?_
        refine Sl.Tr.region ?_
        refine Sl.G.ro (Sl.RO.rd (Sl.RO.move rfl)) rfl ?_
        refine Sl.G.ro (Sl.RO.rd (Sl.RO.move rfl)) rfl ?_
        refine Sl.G.ro (Sl.RO.rd (Sl.RO.move rfl)) rfl ?_
        refine Sl.G.ro (Sl.RO.rd (Sl.RO.lenSl rfl sl_22)) rfl ?_
        refine Sl.G.ro (Sl.RO.rd (Sl.RO.subI rfl rfl (by omega))) rfl ?_
        refine Sl.G.ro (Sl.RO.rd (Sl.RO.atElI (i - l.length) rfl rfl sl_22 hrm hr (by omega))) rfl ?_
        refine Sl.G.ro (Sl.RO.rd (Sl.RO.loadEp rfl hrm (by assumption) ly_27 rfl)) rfl ?_
        refine Sl.G.store rfl rfl rfl rfl ly_27 rfl .h rfl ?_
        refine Sl.G.nil ?_
        refine Sl.Post.thenN ?_
        refine Sl.Tr.seq ?_
        refine Sl.Tr.region ?_
        refine Sl.G.ro (Sl.RO.rd (Sl.RO.fieldAddr rfl fo_27_1)) rfl ?_
        refine Sl.G.ro (Sl.RD.load1 rfl .h ly_25 rfl) rfl ?_
        refine Sl.G.ro (Sl.RO.rd (Sl.RO.lenSl rfl sl_25)) rfl ?_
        refine Sl.G.cmp (Sl.RO.gtr rfl rfl) rfl (fun hc5 => ?_) (fun hc5 => ?_)
        refine Sl.G.nil ?_
        refine Sl.Post.thenN ?_
        refine Sl.Tr.condT rfl ?_
        refine Sl.Tr.seq ?_
        refine Sl.Tr.region ?_
        refine Sl.G.ro (Sl.RO.rd (Sl.RO.assign rfl)) rfl ?_
        refine Sl.G.nil ?_
        refine Sl.Post.thenN ?_
        refine Sl.Tr.ret ?_
        refine Sl.Post.blockR ?_
        refine Sl.Post.thenR ?_
        refine Sl.Post.thenR ?_
        refine Sl.Post.blockR ?_
        refine Sl.Post.thenR ?_
        rotate_left
        refine Sl.G.nil ?_
        refine Sl.Post.thenN ?_
        refine Sl.Tr.condF rfl ?_
        refine Sl.Tr.skip ?_
        refine Sl.Post.blockN ?_
        refine Sl.Post.thenN ?_
        refine Sl.Tr.region ?_
        refine Sl.G.ro (Sl.RO.rd (Sl.RO.move rfl)) rfl ?_
        refine Sl.G.ro (Sl.RO.rd (Sl.RO.addI rfl rfl (by omega))) rfl ?_
        refine Sl.G.ro (Sl.RO.rd (Sl.RO.assign rfl)) rfl ?_
        refine Sl.G.nil ?_
        rotate_left
        · refine Sl.Post.fin rfl (.tmp rfl .nil) rfl .n ?_ (.inl rfl)
          exact ⟨rfl, rfl⟩
        · refine Sl.Post.again (i + 1) ?_ ?_ ?_ ?_ ?_
          rotate_left
          · omega
          · exact ⟨rfl, trivial⟩
          · exact ⟨rfl, rfl, rfl, rfl, rfl, rfl, rfl, rfl, rfl, rfl, rfl, rfl, rfl, trivial⟩
          · exact .o
          refine ⟨by omega, ?_⟩
          rw [take_succ' hlm]
          intro y hy
          rcases List.mem_append.1 hy with h | h
          · exact he y h
          · simp at h; subst h; omega
    · obtain rfl : i = l.length + m.length := by omega
      have he1 : ∀ r ∈ l, r.ev.length ≤ 300 := fun r hr => he r (by rw [List.take_of_length_le (by simp)]; simp [hr])
      have he2 : ∀ r ∈ m, r.ev.length ≤ 300 := fun r hr => he r (by rw [List.take_of_length_le (by simp)]; simp [hr])
      have hB := bytesB_len l
      have hB2 := bytesB_len m
      have hcat : bytesB (l ++ m) = bytesB l ++ bytesB m := by simp [bytesB]
      have hcl : (bytesB (l ++ m)).length = (bytesB l).length + (bytesB m).length := by rw [hcat, List.length_append]
      refine Sl.Tr.seq ?_
      refine Sl.Tr.seq ?_
      refine Sl.Tr.region ?_
      refine Sl.G.ro (Sl.RO.rd (Sl.RO.move rfl)) rfl ?_
      refine Sl.G.ro (Sl.RO.rd (Sl.RO.move rfl)) rfl ?_
      refine Sl.G.ro (Sl.RO.rd (Sl.RO.lenSl rfl sl_22)) rfl ?_
      refine Sl.G.ro (Sl.RO.rd (Sl.RO.move rfl)) rfl ?_
      refine Sl.G.ro (Sl.RO.rd (Sl.RO.lenSl rfl sl_22)) rfl ?_
      refine Sl.G.ro (Sl.RO.rd (Sl.RO.addI rfl rfl (by omega))) rfl ?_
      refine Sl.G.ro (Sl.RO.rd (Sl.RO.bF (Sl.RO.lss rfl rfl) (by omega))) rfl ?_
      refine Sl.G.nil ?_
      refine Sl.Post.thenN ?_
      refine Sl.Tr.condF rfl ?_
      refine Sl.Tr.exit ?_
      refine Sl.Post.thenE ?_
      refine Sl.Post.thenE ?_
      refine Sl.Post.blockE ?_
      refine Sl.Post.thenN ?_
      refine Sl.Tr.seq ?_
      refine Sl.Tr.region ?_
      refine Sl.G.ro (Sl.RO.rd (Sl.RO.move rfl)) rfl ?_
      refine Sl.G.call rfl rfl .n (.c .n) .n (fun G' hle hhas => script_Bytes (l := l) (hv := (⟨⟨_, Sl.Frm.has_mono hrl hle⟩, fun r hr => ⟨(hl.evs r hr).imp fun _ h => Sl.Frm.has_mono h hle, by have := he1 r hr; omega⟩⟩)) (hl := (by omega)) (hl2 := (by omega)) ..) rfl (fun v K hR => ?_)
      obtain ⟨rfl, rfl⟩ := hR
      refine Sl.G.app .n ?_
      refine Sl.G.ro (Sl.RO.rd (Sl.RO.move rfl)) rfl ?_
      refine Sl.G.call rfl rfl .n (.c .n) .n (fun G' hle hhas => script_Bytes (l := m) (hv := (⟨⟨_, Sl.Frm.has_mono hrm hle⟩, fun r hr => ⟨(hk.evs r hr).imp fun _ h => Sl.Frm.has_mono h hle, by have := he2 r hr; omega⟩⟩)) (hl := (by omega)) (hl2 := (by omega)) ..) rfl (fun v K hR => ?_)
      obtain ⟨rfl, rfl⟩ := hR
      refine Sl.G.app .n ?_
      refine Sl.G.ro (Sl.RO.rd (Sl.RO.assign rfl)) rfl ?_
      refine Sl.G.ro (Sl.RO.rd (Sl.RO.assign rfl)) rfl ?_
      refine Sl.G.nil ?_
      refine Sl.Post.thenN ?_
      refine Sl.Tr.seq ?_
      refine Sl.Tr.region ?_
      refine Sl.G.buildSlice ap_22 rfl rfl rfl rfl rfl (fun b6 => ?_)
      refine Sl.G.ro (Sl.RO.rd (Sl.RO.move rfl)) rfl ?_
      refine Sl.G.mem (fun hs => Sl.Sat.ptsA (l := []) RepV.el (rfl) .h hs) ?_
      refine Sl.G.appendF Go.Proofs.YtcaojfapibkplaaGreatDoor.RepV.el rfl rfl ap_22 rfl .h (by simp only [List.length_nil]; omega) hrl rfl (fun p7 c8 => ?_)
      refine Sl.G.ro (Sl.RO.rd (Sl.RO.move rfl)) rfl ?_
      refine Sl.G.appendF Go.Proofs.YtcaojfapibkplaaGreatDoor.RepV.el rfl rfl ap_22 rfl .h (by simp only [List.length_append, List.length_nil]; omega) hrm rfl (fun p9 c10 => ?_)
      refine Sl.G.call rfl rfl .n (.c .n) .n (fun G' hle hhas => script_Bytes (l := l ++ m) (hv := (⟨⟨_, hhas _ (Sl.memAt 0 rfl)⟩, fun r hr => ⟨((List.mem_append.1 hr).elim (hl.evs r) (hk.evs r)).imp fun _ h => Sl.Frm.has_mono h hle, by have := (List.mem_append.1 hr).elim (he1 r) (he2 r); omega⟩⟩)) (hl := (by omega)) (hl2 := (by simp; omega)) ..) rfl (fun v K hR => ?_)
      obtain ⟨rfl, rfl⟩ := hR
      refine Sl.G.app .n ?_
      refine Sl.G.ro (Sl.RO.rd (Sl.RO.assign rfl)) rfl ?_
      refine Sl.G.nil ?_
      refine Sl.Post.thenN ?_
      refine Sl.Tr.seq ?_
      refine Sl.Tr.seq ?_
      refine Sl.Tr.region ?_
      refine Sl.G.ro (Sl.RO.rd (Sl.RO.move rfl)) rfl ?_
      refine Sl.G.ro (Sl.RO.rd (Sl.RO.move rfl)) rfl ?_
      refine Sl.G.ro (Sl.RO.rd (Sl.RO.move rfl)) rfl ?_
      refine Sl.G.ro (Sl.RO.rd (Sl.RO.concat rfl rfl (by omega))) rfl ?_
      refine Sl.G.cmpn (Sl.RO.neqStr rfl rfl) rfl (fun hc11 => ?_) (fun hc11 => ?_)
      refine Sl.G.nil ?_
      refine Sl.Post.thenN ?_
      refine Sl.Tr.condT rfl ?_
      refine Sl.Tr.seq ?_
      refine Sl.Tr.region ?_
      refine Sl.G.ro (Sl.RO.rd (Sl.RO.assign rfl)) rfl ?_
      refine Sl.G.nil ?_
      refine Sl.Post.thenN ?_
      refine Sl.Tr.ret ?_
      refine Sl.Post.thenR ?_
      rotate_left
      refine Sl.G.nil ?_
      refine Sl.Post.thenN ?_
      refine Sl.Tr.condF rfl ?_
      refine Sl.Tr.skip ?_
      refine Sl.Post.thenN ?_
      refine Sl.Tr.seq ?_
      refine Sl.Tr.region ?_
      refine Sl.G.ro (Sl.RO.rd (Sl.RO.move rfl)) rfl ?_
      refine Sl.G.call rfl rfl .n (.c .n) .n (fun G' hle hhas => Go.Proofs.YtcaojfapibkplaaGreatDoor.script_Replies (hl := (by omega)) ..) rfl (fun v K hR => ?_)
      refine Sl.G.ro (Sl.RO.rd (Sl.RO.move rfl)) rfl ?_
      rotate_left
      · exact absurd hcat (by assumption)
      obtain ⟨x0, hx1, hx2⟩ := parse_of ((l ++ m).map RepV.pure)
      rw [← bytesB_P] at hx1
      rw [List.length_map, List.length_append] at hx2
      rcases hR with ⟨p2, c2, l2, rfl, rfl, hp2⟩ | ⟨hp2, rfl, rfl⟩
      · have hl2 : l2.length = l.length + m.length := by
          rw [hx1] at hp2
          have h := Option.some.inj hp2
          rw [h, List.length_map] at hx2; exact hx2
        have hpb2 := parse_bytes _ _ _ (Nat.le_refl _) hp2
        have hev2 : ∀ r ∈ l2, r.ev.length ≤ 1000 := fun r hr => by have h : r.ev.length ≤ 255 := hpb2.2.2 (RepV.pure r) (List.mem_map_of_mem hr); omega
        rcases Int.lt_or_le cut 0 with hcut | hcut
        · refine Sl.G.app (.c (.c .n)) ?_
          refine Sl.G.ro (Sl.RO.rd (Sl.RO.extractL rfl rfl)) rfl ?_
          refine Sl.G.ro (Sl.RO.rd (Sl.RO.extractL rfl rfl)) rfl ?_
          refine Sl.G.ro (Sl.RO.rd (Sl.RO.assign rfl)) rfl ?_
          refine Sl.G.ro (Sl.RO.rd (Sl.RO.assign rfl)) rfl ?_
          refine Sl.G.nil ?_
          refine Sl.Post.thenN ?_
          refine Sl.Tr.seq ?_
          refine Sl.Tr.seq ?_
          refine Sl.Tr.region ?_
          refine Sl.G.ro (Sl.RO.rd (Sl.RO.move rfl)) rfl ?_
          refine Sl.G.ro (Sl.RO.rd (Sl.RO.nF (Sl.RO.neq rfl rfl) (by decide))) rfl ?_
          refine Sl.G.ro (Sl.RO.rd (Sl.RO.move rfl)) rfl ?_
          refine Sl.G.un rfl ?_
          refine Sl.G.ro (Sl.RO.rd (Sl.RO.move rfl)) rfl ?_
          refine Sl.G.un rfl ?_
          refine Sl.G.ro (Sl.RO.rd (Sl.RO.lenSl rfl sl_22)) rfl ?_
          refine Sl.G.un rfl ?_
          refine Sl.G.ro (Sl.RO.rd (Sl.RO.move rfl)) rfl ?_
          refine Sl.G.un rfl ?_
          refine Sl.G.ro (Sl.RO.rd (Sl.RO.lenSl rfl sl_22)) rfl ?_
          refine Sl.G.un rfl ?_
          refine Sl.G.ro (Sl.RO.rd (Sl.RO.move rfl)) rfl ?_
          refine Sl.G.un rfl ?_
          refine Sl.G.ro (Sl.RO.rd (Sl.RO.lenSl rfl sl_22)) rfl ?_
          refine Sl.G.un rfl ?_
          refine Sl.G.ro (Sl.RO.rd (Sl.RO.addI rfl rfl (by omega))) rfl ?_
          refine Sl.G.un rfl ?_
          refine Sl.G.ro (Sl.RO.rd (Sl.RO.nF (Sl.RO.neq rfl rfl) (by omega))) rfl ?_
          refine Sl.G.ro (Sl.RO.rd (Sl.RO.pickF rfl rfl)) rfl ?_
          refine Sl.G.nil ?_
          refine Sl.Post.thenN ?_
          refine Sl.Tr.condF rfl ?_
          refine Sl.Tr.skip ?_
          refine Sl.Post.thenN ?_
          refine Sl.Tr.seq ?_
          refine Sl.Tr.seq ?_
          refine Sl.Tr.region ?_
          refine Sl.G.ro (Sl.RO.rd (Sl.RO.move rfl)) rfl ?_
          refine Sl.G.ro (Sl.RO.rd (Sl.RO.bT (Sl.RO.lss rfl rfl) (by omega))) rfl ?_
          refine Sl.G.ro (Sl.RO.rd (Sl.RO.move rfl)) rfl ?_
          refine Sl.G.pass rfl rfl ?_
          refine Sl.G.pass rfl rfl ?_
          refine Sl.G.pass rfl rfl ?_
          refine Sl.G.pass rfl rfl ?_
          refine Sl.G.ro (Sl.RO.rd (Sl.RO.pickT rfl rfl)) rfl ?_
          refine Sl.G.nil ?_
          refine Sl.Post.thenN ?_
          refine Sl.Tr.condT rfl ?_
          refine Sl.Tr.seq ?_
          refine Sl.Tr.region ?_
          refine Sl.G.ro (Sl.RO.rd (Sl.RO.assign rfl)) rfl ?_
          refine Sl.G.nil ?_
          refine Sl.Post.thenN ?_
          refine Sl.Tr.ret ?_
          refine Sl.Post.thenR ?_
          refine Sl.Post.fin rfl (.tmp rfl .nil) rfl .n ?_ (.inl rfl)
          exact ⟨rfl, rfl⟩
        obtain ⟨k, rfl⟩ := Int.eq_ofNat_of_zero_le hcut
        rcases Nat.lt_or_ge (bytesB (l ++ m)).length k with hk1 | hk1
        · refine Sl.G.app (.c (.c .n)) ?_
          refine Sl.G.ro (Sl.RO.rd (Sl.RO.extractL rfl rfl)) rfl ?_
          refine Sl.G.ro (Sl.RO.rd (Sl.RO.extractL rfl rfl)) rfl ?_
          refine Sl.G.ro (Sl.RO.rd (Sl.RO.assign rfl)) rfl ?_
          refine Sl.G.ro (Sl.RO.rd (Sl.RO.assign rfl)) rfl ?_
          refine Sl.G.nil ?_
          refine Sl.Post.thenN ?_
          refine Sl.Tr.seq ?_
          refine Sl.Tr.seq ?_
          refine Sl.Tr.region ?_
          refine Sl.G.ro (Sl.RO.rd (Sl.RO.move rfl)) rfl ?_
          refine Sl.G.ro (Sl.RO.rd (Sl.RO.nF (Sl.RO.neq rfl rfl) (by decide))) rfl ?_
          refine Sl.G.ro (Sl.RO.rd (Sl.RO.move rfl)) rfl ?_
          refine Sl.G.un rfl ?_
          refine Sl.G.ro (Sl.RO.rd (Sl.RO.move rfl)) rfl ?_
          refine Sl.G.un rfl ?_
          refine Sl.G.ro (Sl.RO.rd (Sl.RO.lenSl rfl sl_22)) rfl ?_
          refine Sl.G.un rfl ?_
          refine Sl.G.ro (Sl.RO.rd (Sl.RO.move rfl)) rfl ?_
          refine Sl.G.un rfl ?_
          refine Sl.G.ro (Sl.RO.rd (Sl.RO.lenSl rfl sl_22)) rfl ?_
          refine Sl.G.un rfl ?_
          refine Sl.G.ro (Sl.RO.rd (Sl.RO.move rfl)) rfl ?_
          refine Sl.G.un rfl ?_
          refine Sl.G.ro (Sl.RO.rd (Sl.RO.lenSl rfl sl_22)) rfl ?_
          refine Sl.G.un rfl ?_
          refine Sl.G.ro (Sl.RO.rd (Sl.RO.addI rfl rfl (by omega))) rfl ?_
          refine Sl.G.un rfl ?_
          refine Sl.G.ro (Sl.RO.rd (Sl.RO.nF (Sl.RO.neq rfl rfl) (by omega))) rfl ?_
          refine Sl.G.ro (Sl.RO.rd (Sl.RO.pickF rfl rfl)) rfl ?_
          refine Sl.G.nil ?_
          refine Sl.Post.thenN ?_
          refine Sl.Tr.condF rfl ?_
          refine Sl.Tr.skip ?_
          refine Sl.Post.thenN ?_
          refine Sl.Tr.seq ?_
          refine Sl.Tr.seq ?_
          refine Sl.Tr.region ?_
          refine Sl.G.ro (Sl.RO.rd (Sl.RO.move rfl)) rfl ?_
          refine Sl.G.ro (Sl.RO.rd (Sl.RO.bF (Sl.RO.lss rfl rfl) (by omega))) rfl ?_
          refine Sl.G.ro (Sl.RO.rd (Sl.RO.move rfl)) rfl ?_
          refine Sl.G.un rfl ?_
          refine Sl.G.ro (Sl.RO.rd (Sl.RO.move rfl)) rfl ?_
          refine Sl.G.un rfl ?_
          refine Sl.G.ro (Sl.RO.rd (Sl.RO.move rfl)) rfl ?_
          refine Sl.G.un rfl ?_
          refine Sl.G.ro (Sl.RO.rd (Sl.RO.lenStr rfl st_9)) rfl ?_
          refine Sl.G.un rfl ?_
          refine Sl.G.ro (Sl.RO.rd (Sl.RO.bT (Sl.RO.gtr rfl rfl) (by omega))) rfl ?_
          refine Sl.G.ro (Sl.RO.rd (Sl.RO.pickF rfl rfl)) rfl ?_
          refine Sl.G.nil ?_
          refine Sl.Post.thenN ?_
          refine Sl.Tr.condT rfl ?_
          refine Sl.Tr.seq ?_
          refine Sl.Tr.region ?_
          refine Sl.G.ro (Sl.RO.rd (Sl.RO.assign rfl)) rfl ?_
          refine Sl.G.nil ?_
          refine Sl.Post.thenN ?_
          refine Sl.Tr.ret ?_
          refine Sl.Post.thenR ?_
          refine Sl.Post.fin rfl (.tmp rfl .nil) rfl .n ?_ (.inl rfl)
          exact ⟨rfl, rfl⟩
        refine Sl.G.app (.c (.c .n)) ?_
        refine Sl.G.ro (Sl.RO.rd (Sl.RO.extractL rfl rfl)) rfl ?_
        refine Sl.G.ro (Sl.RO.rd (Sl.RO.extractL rfl rfl)) rfl ?_
        refine Sl.G.ro (Sl.RO.rd (Sl.RO.assign rfl)) rfl ?_
        refine Sl.G.ro (Sl.RO.rd (Sl.RO.assign rfl)) rfl ?_
        refine Sl.G.nil ?_
        refine Sl.Post.thenN ?_
        refine Sl.Tr.seq ?_
        refine Sl.Tr.seq ?_
        refine Sl.Tr.region ?_
        refine Sl.G.ro (Sl.RO.rd (Sl.RO.move rfl)) rfl ?_
        refine Sl.G.ro (Sl.RO.rd (Sl.RO.nF (Sl.RO.neq rfl rfl) (by decide))) rfl ?_
        refine Sl.G.ro (Sl.RO.rd (Sl.RO.move rfl)) rfl ?_
        refine Sl.G.un rfl ?_
        refine Sl.G.ro (Sl.RO.rd (Sl.RO.move rfl)) rfl ?_
        refine Sl.G.un rfl ?_
        refine Sl.G.ro (Sl.RO.rd (Sl.RO.lenSl rfl sl_22)) rfl ?_
        refine Sl.G.un rfl ?_
        refine Sl.G.ro (Sl.RO.rd (Sl.RO.move rfl)) rfl ?_
        refine Sl.G.un rfl ?_
        refine Sl.G.ro (Sl.RO.rd (Sl.RO.lenSl rfl sl_22)) rfl ?_
        refine Sl.G.un rfl ?_
        refine Sl.G.ro (Sl.RO.rd (Sl.RO.move rfl)) rfl ?_
        refine Sl.G.un rfl ?_
        refine Sl.G.ro (Sl.RO.rd (Sl.RO.lenSl rfl sl_22)) rfl ?_
        refine Sl.G.un rfl ?_
        refine Sl.G.ro (Sl.RO.rd (Sl.RO.addI rfl rfl (by omega))) rfl ?_
        refine Sl.G.un rfl ?_
        refine Sl.G.ro (Sl.RO.rd (Sl.RO.nF (Sl.RO.neq rfl rfl) (by omega))) rfl ?_
        refine Sl.G.ro (Sl.RO.rd (Sl.RO.pickF rfl rfl)) rfl ?_
        refine Sl.G.nil ?_
        refine Sl.Post.thenN ?_
        refine Sl.Tr.condF rfl ?_
        refine Sl.Tr.skip ?_
        refine Sl.Post.thenN ?_
        refine Sl.Tr.seq ?_
        refine Sl.Tr.seq ?_
        refine Sl.Tr.region ?_
        refine Sl.G.ro (Sl.RO.rd (Sl.RO.move rfl)) rfl ?_
        refine Sl.G.ro (Sl.RO.rd (Sl.RO.bF (Sl.RO.lss rfl rfl) (by omega))) rfl ?_
        refine Sl.G.ro (Sl.RO.rd (Sl.RO.move rfl)) rfl ?_
        refine Sl.G.un rfl ?_
        refine Sl.G.ro (Sl.RO.rd (Sl.RO.move rfl)) rfl ?_
        refine Sl.G.un rfl ?_
        refine Sl.G.ro (Sl.RO.rd (Sl.RO.move rfl)) rfl ?_
        refine Sl.G.un rfl ?_
        refine Sl.G.ro (Sl.RO.rd (Sl.RO.lenStr rfl st_9)) rfl ?_
        refine Sl.G.un rfl ?_
        refine Sl.G.ro (Sl.RO.rd (Sl.RO.bF (Sl.RO.gtr rfl rfl) (by omega))) rfl ?_
        refine Sl.G.ro (Sl.RO.rd (Sl.RO.pickF rfl rfl)) rfl ?_
        refine Sl.G.nil ?_
        refine Sl.Post.thenN ?_
        refine Sl.Tr.condF rfl ?_
        refine Sl.Tr.skip ?_
        refine Sl.Post.thenN ?_
        refine Sl.Tr.seq ?_
        refine Sl.Tr.region ?_
        refine Sl.G.ro (Sl.RO.rd (Sl.RO.move rfl)) rfl ?_
        refine Sl.G.ro (Sl.RO.rd (Sl.RO.move rfl)) rfl ?_
        refine Sl.G.ro (Sl.RO.rd (Sl.RO.sliceStrToI (k) rfl rfl st_9 ⟨by omega, by omega⟩)) rfl ?_
        refine Sl.G.call rfl rfl .n (.c .n) .n (fun G' hle hhas => Go.Proofs.YtcaojfapibkplaaGreatDoor.script_Replies (hl := (by simp; omega)) ..) rfl (fun v K hR => ?_)
        refine Sl.G.ro (Sl.RO.rd (Sl.RO.move rfl)) rfl ?_
        rcases hR with ⟨p3, c3, l3, rfl, rfl, hp3⟩ | ⟨hp3, rfl, rfl⟩
        · have hpt := parse_take _ _ k _ _ (Nat.le_refl _) hp2 hp3
          have hpb3 := parse_bytes _ _ _ (Nat.le_refl _) hp3
          have hev3 : ∀ r ∈ l3, r.ev.length ≤ 1000 := fun r hr => by have h : r.ev.length ≤ 255 := hpb3.2.2 (RepV.pure r) (List.mem_map_of_mem hr); omega
          have hl3 := hpt.1
          simp only [List.length_map] at hl3
          have hb3 : bytesB l3 = (bytesB (l ++ m)).take k := by rw [bytesB_P]; exact hpb3.1
          have hb3l : (bytesB l3).length ≤ (bytesB (l ++ m)).length := by rw [hb3]; simp; omega
          have hsame : l3.map RepV.pure = (l2.take l3.length).map RepV.pure := by
            have := hpt.2
            rw [List.length_map] at this
            rw [this, List.map_take]
          have hlt : (l2.take l3.length).length = l3.length := by simp; omega
          refine Sl.G.app (.c (.c .n)) ?_
          refine Sl.G.ro (Sl.RO.rd (Sl.RO.extractL rfl rfl)) rfl ?_
          refine Sl.G.ro (Sl.RO.rd (Sl.RO.extractL rfl rfl)) rfl ?_
          refine Sl.G.ro (Sl.RO.rd (Sl.RO.assign rfl)) rfl ?_
          refine Sl.G.ro (Sl.RO.rd (Sl.RO.assign rfl)) rfl ?_
          refine Sl.G.nil ?_
          refine Sl.Post.thenN ?_
          refine Sl.Tr.seq ?_
          refine Sl.Tr.seq ?_
          refine Sl.Tr.region ?_
          refine Sl.G.ro (Sl.RO.rd (Sl.RO.move rfl)) rfl ?_
          refine Sl.G.ro (Sl.RO.rd (Sl.RO.nF (Sl.RO.neq rfl rfl) (by decide))) rfl ?_
          refine Sl.G.nil ?_
          refine Sl.Post.thenN ?_
          refine Sl.Tr.condF rfl ?_
          refine Sl.Tr.skip ?_
          refine Sl.Post.thenN ?_
          refine Sl.Tr.seq ?_
          refine Sl.Tr.draw (fuel := 22) (listed := [false, false, false, false, false, false, false, false, false, false, false, false, false, false, false, false, false, false, false, false, false, false]) mixed rfl rfl ?_
          refine Sl.GD.take (i := 0) rfl rfl rfl (Sl.RO.move rfl) rfl ?_
          refine Sl.GD.take (i := 1) rfl rfl rfl (Sl.RO.lenSl rfl sl_22) rfl ?_
          refine Sl.GD.take (i := 2) rfl rfl rfl (Sl.RO.move rfl) rfl ?_
          refine Sl.GD.take (i := 3) rfl rfl rfl (Sl.RO.lenSl rfl sl_22) rfl ?_
          refine Sl.GD.take (i := 4) rfl rfl rfl (Sl.RO.bT (Sl.RO.leq rfl rfl) (by omega)) rfl ?_
          refine Sl.GD.take (i := 5) rfl rfl rfl (Sl.RO.move rfl) rfl ?_
          refine Sl.GD.takeG (i := 6) rfl rfl rfl rfl (Sl.RO.move rfl) rfl ?_
          refine Sl.GD.takeG (i := 7) rfl rfl rfl rfl (Sl.RO.move rfl) rfl ?_
          refine Sl.GD.takeG (i := 8) rfl rfl rfl rfl (Sl.RO.move rfl) rfl ?_
          refine Sl.GD.takeG (i := 9) rfl rfl rfl rfl (Sl.RO.lenSl rfl sl_22) rfl ?_
          refine Sl.GD.rdG (i := 10) rfl rfl rfl rfl (Sl.RD.sliceTo rfl rfl sl_22 (.t (.t .h)) (by omega)) rfl ?_
          refine Sl.GD.as 121 (.slice p2 (l2.take l3.length).length c2) rfl ?_ ?_
          · rw [hlt]
          refine Sl.GD.callG (i := 11) rfl rfl rfl rfl rfl rfl .n (.c (.c .n)) .n (fun G' hle hhas => Same_Replies (l := l3) (m := l2.take l3.length) (hl := (⟨hhas _ (Sl.memAt 0 rfl), fun r hr => ⟨Sl.Frm.has_mem (hhas _ (Sl.memAt 1 rfl)) (List.mem_map_of_mem (f := RepV.evA 41) hr), hev3 r hr⟩⟩)) (hm := (⟨Sl.Frm.has_take (hhas _ (Sl.memAt 2 rfl)), fun r hr => ⟨Sl.Frm.has_mem (hhas _ (Sl.memAt 3 rfl)) (List.mem_map_of_mem (f := RepV.evA 41) (List.mem_of_mem_take hr)), hev2 r (List.mem_of_mem_take hr)⟩⟩)) (hn := (by omega)) ..) rfl (fun v K hR => ?_)
          obtain ⟨rfl, rfl⟩ := hR
          refine Sl.GD.app .n ?_
          refine Sl.GD.take (i := 12) rfl rfl rfl (Sl.RO.pickT rfl rfl) rfl ?_
          refine Sl.GD.take (i := 13) rfl rfl rfl (Sl.RO.move rfl) rfl ?_
          refine Sl.GD.as 124 (.bool true) rfl ?_ ?_
          · rw [decide_eq_true hsame]
          refine Sl.GD.takeG (i := 14) rfl rfl rfl rfl (Sl.RO.move rfl) rfl ?_
          refine Sl.GD.takeG (i := 16) rfl rfl rfl rfl (Sl.RO.move rfl) rfl ?_
          refine Sl.GD.takeG (i := 17) rfl rfl rfl rfl (Sl.RO.move rfl) rfl ?_
          refine Sl.GD.takeG (i := 18) rfl rfl rfl rfl (Sl.RO.sliceStrToI (k) rfl rfl st_9 ⟨by omega, by omega⟩) rfl ?_
          refine Sl.GD.callG (i := 15) rfl rfl rfl rfl rfl rfl .n (.c .n) .n (fun G' hle hhas => script_Bytes (l := l3) (hv := (⟨⟨_, hhas _ (Sl.memAt 0 rfl)⟩, fun r hr => ⟨⟨_, Sl.Frm.has_mem (hhas _ (Sl.memAt 1 rfl)) (List.mem_map_of_mem (f := RepV.evA 41) hr)⟩, hev3 r hr⟩⟩)) (hl := (by omega)) (hl2 := (by omega)) ..) rfl (fun v K hR => ?_)
          obtain ⟨rfl, rfl⟩ := hR
          refine Sl.GD.app .n ?_
          refine Sl.GD.takeG (i := 19) rfl rfl rfl rfl (Sl.RO.bT (Sl.RO.eqlStr rfl rfl) hb3) rfl ?_
          refine Sl.GD.take (i := 20) rfl rfl rfl (Sl.RO.pickT rfl rfl) rfl ?_
          refine Sl.GD.take (i := 21) rfl rfl rfl (Sl.RO.assign rfl) rfl ?_
          refine Sl.GD.done rfl ?_
          refine Sl.Post.thenN ?_
          refine Sl.Tr.ret ?_
          refine Sl.Post.fin rfl (.tmp rfl .nil) rfl .n ?_ (.inl rfl)
          exact ⟨rfl, rfl⟩
        · refine Sl.G.app .n ?_
          refine Sl.G.ro (Sl.RO.rd (Sl.RO.extractL rfl rfl)) rfl ?_
          refine Sl.G.ro (Sl.RO.rd (Sl.RO.extractL rfl rfl)) rfl ?_
          refine Sl.G.ro (Sl.RO.rd (Sl.RO.assign rfl)) rfl ?_
          refine Sl.G.ro (Sl.RO.rd (Sl.RO.assign rfl)) rfl ?_
          refine Sl.G.nil ?_
          refine Sl.Post.thenN ?_
          refine Sl.Tr.seq ?_
          refine Sl.Tr.seq ?_
          refine Sl.Tr.region ?_
          refine Sl.G.ro (Sl.RO.rd (Sl.RO.move rfl)) rfl ?_
          refine Sl.G.ro (Sl.RO.rd (Sl.RO.nT (Sl.RO.neq rfl rfl) (by decide))) rfl ?_
          refine Sl.G.nil ?_
          refine Sl.Post.thenN ?_
          refine Sl.Tr.condT rfl ?_
          refine Sl.Tr.seq ?_
          refine Sl.Tr.region ?_
          refine Sl.G.ro (Sl.RO.rd (Sl.RO.move rfl)) rfl ?_
          refine Sl.G.ro (Sl.RO.rd (Sl.RO.bT (Sl.RO.eql rfl rfl) (by decide))) rfl ?_
          refine Sl.G.ro (Sl.RO.rd (Sl.RO.move rfl)) rfl ?_
          refine Sl.G.un rfl ?_
          refine Sl.G.ro (Sl.RO.rd (Sl.RO.move rfl)) rfl ?_
          refine Sl.G.un rfl ?_
          refine Sl.G.ro (Sl.RO.rd (Sl.RO.lenSl rfl sl_22)) rfl ?_
          refine Sl.G.un rfl ?_
          refine Sl.G.ro (Sl.RO.rd (Sl.RO.bT (Sl.RO.eql rfl rfl) (by omega))) rfl ?_
          refine Sl.G.ro (Sl.RO.rd (Sl.RO.pickT rfl rfl)) rfl ?_
          refine Sl.G.ro (Sl.RO.rd (Sl.RO.assign rfl)) rfl ?_
          refine Sl.G.nil ?_
          refine Sl.Post.thenN ?_
          refine Sl.Tr.ret ?_
          refine Sl.Post.thenR ?_
          refine Sl.Post.fin rfl (.tmp rfl .nil) rfl .n ?_ (.inl rfl)
          exact ⟨rfl, rfl⟩
      · rw [hx1] at hp2; cases hp2
end Go.Proofs.YtcaojfapibkplaaGreatDoor
namespace Go.Proofs.YtcaojfapibkplaaGreatDoor
open Go Go.Sl Go.En Go.ChangeShapes Go.WideShapes

theorem exists_list {α : Type} {Q : Nat → α → Prop} : ∀ {n : Nat}, (∀ i, i < n → ∃ a, Q i a) → ∃ l : List α, l.length = n ∧ ∀ i a, l[i]? = some a → Q i a := by
  intro n
  induction n with
  | zero => exact fun _ => ⟨[], rfl, by simp⟩
  | succ n ih =>
    intro h
    obtain ⟨l, h1, h2⟩ := ih (fun i hi => h i (by omega))
    obtain ⟨a, ha⟩ := h n (by omega)
    refine ⟨l ++ [a], by simp [h1], fun i b hb => ?_⟩
    by_cases hi : i < l.length
    · rw [List.getElem?_append_left hi] at hb; exact h2 i b hb
    · rw [List.getElem?_append_right (by omega)] at hb
      have : i - l.length = 0 := by
        rcases Nat.eq_zero_or_pos (i - l.length) with h' | h'
        · exact h'
        · rw [List.getElem?_eq_none (by simp; omega)] at hb; cases hb
      rw [this] at hb
      simp at hb; subst hb
      rw [show i = n from by omega]; exact ha

theorem len2 {α : Type} : ∀ {r : List α}, r.length = 2 → ∃ a b, r = [a, b]
  | [a, b], _ => ⟨a, b, rfl⟩
theorem len3 {α : Type} : ∀ {r : List α}, r.length = 3 → ∃ a b c, r = [a, b, c]
  | [a, b, c], _ => ⟨a, b, c, rfl⟩

theorem cells_27 : Tryz.prog.cellsOf 27 = 2 := by kernel_rfl
theorem cells_41 : Tryz.prog.cellsOf 41 = 3 := by kernel_rfl
theorem cells_24 : Tryz.prog.cellsOf 24 = 1 := by kernel_rfl
theorem cells_25 : Tryz.prog.cellsOf 25 = 1 := by kernel_rfl
theorem cells_3 : Tryz.prog.cellsOf 3 = 1 := by kernel_rfl

section
variable {H : Type} {enc : TypeId × Value → H} {W : World}
/-- Reading events gives events. -/
theorem open_evs {fuel : Nat} {vs : List Value} {x : DataW H × List MemPlace} (h : DataW.trod enc Tryz.prog W 0 (fun _ => true) true fuel 25 vs = some x) (hnf : ∀ b off, MemPlace.cell b off ∈ x.2 → W.frozen? ⟨b, off, none⟩ = false) :
    ∃ (p : Option Addr) (c : Nat) (l : List En.Event), vs = [.slice p l.length c] ∧ l.length ≤ maxLen ∧ ∃ T, (frmOf W).has (sA T 3 En.Event.cells p c l) := by
  obtain ⟨p, len, c, h1, h2, h3, h4⟩ := trod_row Tryz.underlying25 (by rw [cells_41]; decide) h hnf
  rcases h4 with rfl | ⟨b, off, cs, T, fr, rfl, hb, hz, hs, hel⟩
  · obtain rfl : len = 0 := by omega
    exact ⟨p, 0, [], h1, by simp [maxLen], 0, has_row0⟩
  · rw [cells_41] at hz hs hel
    obtain ⟨l, hl, hl2⟩ := exists_list (n := len) (Q := fun i (e : En.Event) => subl cs.toList (off + i * 3) 3 = some (En.Event.cells e)) (fun i hi => by
      obtain ⟨r, y, n, hr, hy, _⟩ := hel i hi
      obtain ⟨xs, n', _, _, hlen, hxl, hf⟩ := DataW.trod_struct Tryz.underlying41 hy
      rw [cells_41] at hlen
      obtain ⟨v0, v1, v2, rfl⟩ := len3 hlen
      have g : ∀ (i : Nat) (f : Field) (v : Value), i < 3 → (#[{ name := "Kind", type := 3, offset := 0, embedded := false, tag := "", pkgPath := "", byteOffset := 0 }, { name := "Id", type := 3, offset := 1, embedded := false, tag := "", pkgPath := "", byteOffset := 8 }, { name := "N", type := 3, offset := 2, embedded := false, tag := "", pkgPath := "", byteOffset := 16 }] : Array Field)[i]? = some f → ([v0, v1, v2].drop f.offset).take 1 = [v] → f.type = 3 → ∃ k, v = .int .i64 k := fun i f v hi hf1 hf2 hf3 => by
        have h5 := hf i f hf1
        rw [hf3, cells_3, hf2, List.getElem?_eq_getElem (by simp at hxl; omega)] at h5
        obtain ⟨k, hk, _⟩ := DataW.trod_int Tryz.underlying3 h5
        simp at hk
        exact ⟨k, hk⟩
      obtain ⟨k0, rfl⟩ := g 0 _ v0 (by omega) rfl rfl rfl
      obtain ⟨k1, rfl⟩ := g 1 _ v1 (by omega) rfl rfl rfl
      obtain ⟨k2, rfl⟩ := g 2 _ v2 (by omega) rfl rfl rfl
      exact ⟨⟨k0, k1, k2⟩, hr⟩)
    subst hl
    exact ⟨_, c, l, h1, Nat.le_trans h2 h3, T, has_row hb hz hs h2 hl2⟩

/-- Reading replies gives replies. -/
theorem open_reps {fuel : Nat} {vs : List Value} {x : DataW H × List MemPlace} (h : DataW.trod enc Tryz.prog W 0 (fun _ => true) true fuel 22 vs = some x) (hnf : ∀ b off, MemPlace.cell b off ∈ x.2 → W.frozen? ⟨b, off, none⟩ = false) :
    ∃ (p : Option Addr) (c : Nat) (l : List RepV), vs = [.slice p l.length c] ∧ l.length ≤ 9223372036854775807 ∧ (∀ r ∈ l, r.ev.length ≤ 9223372036854775807) ∧ RepsG (frmOf W) p c l := by
  obtain ⟨p, len, c, h1, h2, h3, h4⟩ := trod_row Tryz.underlying22 (by rw [cells_27]; decide) h hnf
  rcases h4 with rfl | ⟨b, off, cs, T, fr, rfl, hb, hz, hs, hel⟩
  · obtain rfl : len = 0 := by omega
    exact ⟨p, 0, [], h1, by simp, by simp, ⟨⟨0, has_row0⟩, by simp⟩⟩
  · rw [cells_27] at hz hs hel
    obtain ⟨l, hl, hl2⟩ := exists_list (n := len) (Q := fun i (e : RepV) => subl cs.toList (off + i * 2) 2 = some (RepV.cells e) ∧ e.ev.length ≤ maxLen ∧ ∃ T, (frmOf W).has (sA T 3 En.Event.cells e.p e.c e.ev)) (fun i hi => by
      obtain ⟨r, y, n, hr, hy, hyx⟩ := hel i hi
      obtain ⟨y0, y1, n', rfl, hlen, hy0, hy1⟩ := trod_struct2 Tryz.underlying27 hy
      rw [cells_27] at hlen
      obtain ⟨v0, v1, rfl⟩ := len2 hlen
      obtain ⟨k, hk, _⟩ := DataW.trod_int Tryz.underlying24 hy0
      rw [cells_24] at hk
      simp at hk
      subst hk
      rw [cells_25] at hy1
      simp only [List.drop_succ_cons, List.drop_zero, List.take_succ_cons, List.take_nil] at hy1
      obtain ⟨p', c', ev, he, hel', hev⟩ := open_evs hy1 (fun b' o' hb' => hnf b' o' (hyx _ (List.mem_append_right _ hb')))
      simp at he
      subst he
      exact ⟨⟨k, p', c', ev⟩, hr, hel', hev⟩)
    subst hl
    exact ⟨_, c, l, h1, Nat.le_trans h2 h3, fun r hr => by obtain ⟨i, hi⟩ := List.getElem?_of_mem hr; exact (hl2 i r hi).2.1, ⟨T, has_row hb hz hs h2 (fun i a ha => (hl2 i a ha).1)⟩, fun r hr => by obtain ⟨i, hi⟩ := List.getElem?_of_mem hr; exact (hl2 i r hi).2.2⟩
end
end Go.Proofs.YtcaojfapibkplaaGreatDoor
namespace Go.Proofs.YtcaojfapibkplaaGreatDoor
open Go Go.Sl Go.En Go.ChangeShapes Go.WideShapes

/-- the types that the laws' arguments reach -/
def KT (t : TypeId) : Prop := t = 22 ∨ t = 27 ∨ t = 24 ∨ t = 25 ∨ t = 41 ∨ t = 3 ∨ t = 9
theorem cells_22 : Tryz.prog.cellsOf 22 = 1 := by kernel_rfl
theorem cells_9 : Tryz.prog.cellsOf 9 = 1 := by kernel_rfl
theorem kidsT : Kids Tryz.prog KT := by
  constructor
  · intro t e h ht
    rcases h with rfl | rfl | rfl | rfl | rfl | rfl | rfl <;> simp [Tryz.underlying22, Tryz.underlying27, Tryz.underlying24, Tryz.underlying25, Tryz.underlying41, Tryz.underlying3, Tryz.underlying9] at ht
  · intro t e h ht
    rcases h with rfl | rfl | rfl | rfl | rfl | rfl | rfl <;> simp [Tryz.underlying22, Tryz.underlying27, Tryz.underlying24, Tryz.underlying25, Tryz.underlying41, Tryz.underlying3, Tryz.underlying9] at ht <;> subst ht <;> simp [KT]
  · intro t e n h ht
    rcases h with rfl | rfl | rfl | rfl | rfl | rfl | rfl <;> simp [Tryz.underlying22, Tryz.underlying27, Tryz.underlying24, Tryz.underlying25, Tryz.underlying41, Tryz.underlying3, Tryz.underlying9] at ht
  · intro t fs h ht
    rcases h with rfl | rfl | rfl | rfl | rfl | rfl | rfl
    · rw [Tryz.underlying22] at ht; cases ht
    · rw [Tryz.underlying27] at ht; cases ht
      refine ⟨by simp [KT], by simp [cells_27, cells_24, cells_25], fun j f hj => ?_⟩
      match j, hj with
      | 0, hj => simp at hj; subst hj; rfl
      | 1, hj => simp at hj; subst hj; simp [cells_24]
      | j + 2, hj => simp at hj
    · rw [Tryz.underlying24] at ht; cases ht
    · rw [Tryz.underlying25] at ht; cases ht
    · rw [Tryz.underlying41] at ht; cases ht
      refine ⟨by simp [KT], by simp [cells_41, cells_3], fun j f hj => ?_⟩
      match j, hj with
      | 0, hj => simp at hj; subst hj; rfl
      | 1, hj => simp at hj; subst hj; simp [cells_3]
      | 2, hj => simp at hj; subst hj; simp [cells_3]
      | j + 3, hj => simp at hj
    · rw [Tryz.underlying3] at ht; cases ht
    · rw [Tryz.underlying9] at ht; cases ht
  · intro t k e h ht
    rcases h with rfl | rfl | rfl | rfl | rfl | rfl | rfl <;> simp [Tryz.underlying22, Tryz.underlying27, Tryz.underlying24, Tryz.underlying25, Tryz.underlying41, Tryz.underlying3, Tryz.underlying9] at ht
theorem fullT : ∀ t e, KT t → Tryz.prog.underlying t = some (.slice e) → 0 < Tryz.prog.cellsOf e := by
  intro t e h ht
  rcases h with rfl | rfl | rfl | rfl | rfl | rfl | rfl <;> simp [Tryz.underlying22, Tryz.underlying27, Tryz.underlying24, Tryz.underlying25, Tryz.underlying41, Tryz.underlying3, Tryz.underlying9] at ht <;> subst ht <;> simp [cells_27, cells_41]

section
variable {H : Type} {enc : TypeId × Value → H} {W : World} {base : Nat} {args : Array Value} {ds gs : List (DataW H)} {before : List MemPlace} {s : ChangeSpec} {apart fresh handsOn again : Bool}

set_option maxRecDepth 100000 in
theorem calls_13 (hvars : s.vars = []) (hfn : ∀ a b, s.fn H [a, b] = ⟨[.lit (.bool true)], [a, b], []⟩)
    (hval : ∀ (j : Nat) t v, Tryz.f3.params[j]? = some t → args[j]? = some v → Value.okWide Tryz.prog W .any base t v)
    (hW : DataW.Whole enc Tryz.prog Tryz.f3.params.toList s.vars apart W args.toList ds gs before) :
    Calls Tryz.prog 3 args W fun e W' => ∃ v, e = .returned v ∧ s.post enc Tryz.prog Tryz.f3 apart fresh handsOn again W args v W' := by
  obtain ⟨p, q, hA, hV, hpq, hnf, hnd⟩ := id hW
  rw [hvars] at hV
  obtain ⟨rfl, rfl⟩ := trodVars_none hV
  rw [Tryz.params3] at hA hval
  obtain ⟨v0, v1, d0, d1, p0, p1, hargs, rfl, rfl, h0, h1⟩ := trodAll_two hA
  subst hargs
  rw [List.append_nil] at hpq
  subst hpq
  obtain ⟨n0, h0⟩ := h0
  obtain ⟨po, c, l, e0, hl1, hl2, hG⟩ := open_reps h0 (fun b off hb => hnf b off (List.mem_append_left _ hb))
  obtain ⟨a, len, cap, hv0⟩ := okWide_slice Tryz.underlying22 (hval 0 _ v0 rfl rfl)
  subst hv0
  have e1 : Value.slice a len cap = .slice po l.length c := by simpa [Value.cells] using e0
  rw [e1] at hW ⊢
  obtain ⟨n1, h1⟩ := h1
  obtain ⟨t, hv1⟩ := okWide_string Tryz.underlying9 (hval 1 _ v1 rfl rfl)
  subst hv1
  obtain ⟨t', e2, _, ht⟩ := DataW.trod_string Tryz.underlying9 h1
  have e3 : t = t' := by simpa [Value.cells] using e2
  subst e3
  have ht2 : t.data.toList.length ≤ 9223372036854775807 := ht
  have hs : Value.string t = str t.data.toList := by simp [str]
  have hlaw := (law_ScriptBytes (frmOf W) po c l t.data.toList hG ⟨hl1, hl2, ht2⟩).calls W (frmOf_in W)
  rw [← hs] at hlaw
  refine hlaw.mono fun e W' ⟨v, H', he, ⟨hv, hH⟩, hsat⟩ => ?_
  subst hv hH he
  exact ⟨_, rfl, post_kept kidsT fullT (fun t ht => by
    rw [Tryz.params3] at ht
    simp at ht
    rcases ht with rfl | rfl <;> simp [KT]) hvars rfl Tryz.underlying4 hW (hfn _ _) hsat⟩

set_option maxRecDepth 100000 in
theorem calls_16 (hvars : s.vars = []) (hfn : ∀ a b c, s.fn H [a, b, c] = ⟨[.lit (.bool true)], [a, b, c], []⟩)
    (hval : ∀ (j : Nat) t v, Tryz.f4.params[j]? = some t → args[j]? = some v → Value.okWide Tryz.prog W .any base t v)
    (hW : DataW.Whole enc Tryz.prog Tryz.f4.params.toList s.vars apart W args.toList ds gs before) :
    Calls Tryz.prog 4 args W fun e W' => ∃ v, e = .returned v ∧ s.post enc Tryz.prog Tryz.f4 apart fresh handsOn again W args v W' := by
  obtain ⟨p, q, hA, hV, hpq, hnf, hnd⟩ := id hW
  rw [hvars] at hV
  obtain ⟨rfl, rfl⟩ := trodVars_none hV
  rw [Tryz.params4] at hA hval
  obtain ⟨v0, v1, v2, d0, d1, d2, p0, p1, p2, hargs, rfl, rfl, h0, h1, h2⟩ := trodAll_three hA
  subst hargs
  rw [List.append_nil] at hpq
  subst hpq
  obtain ⟨n0, h0⟩ := h0
  obtain ⟨po, c, l, e0, hl1, hl2, hG⟩ := open_reps h0 (fun b off hb => hnf b off (by simp [hb]))
  obtain ⟨a, len, cap, hv0⟩ := okWide_slice Tryz.underlying22 (hval 0 _ v0 rfl rfl)
  subst hv0
  have e1 : Value.slice a len cap = .slice po l.length c := by simpa [Value.cells] using e0
  obtain ⟨n1, h1⟩ := h1
  obtain ⟨po', c', l', e0', hl1', hl2', hG'⟩ := open_reps h1 (fun b off hb => hnf b off (by simp [hb]))
  obtain ⟨a', len', cap', hv1⟩ := okWide_slice Tryz.underlying22 (hval 1 _ v1 rfl rfl)
  subst hv1
  have e1' : Value.slice a' len' cap' = .slice po' l'.length c' := by simpa [Value.cells] using e0'
  rw [e1, e1'] at hW ⊢
  obtain ⟨n2, h2⟩ := h2
  obtain ⟨k, hv2⟩ := okWide_int Tryz.underlying3 (hval 2 _ v2 rfl rfl)
  subst hv2
  have hlaw := (law_ScriptParts (frmOf W) po po' c c' l l' k hG hG' ⟨hl1, hl2, hl1', hl2'⟩).calls W (frmOf_in W)
  refine hlaw.mono fun e W' ⟨v, H', he, ⟨hv, hH⟩, hsat⟩ => ?_
  subst hv hH he
  exact ⟨_, rfl, post_kept kidsT fullT (fun t ht => by
    rw [Tryz.params4] at ht
    simp at ht
    rcases ht with rfl | rfl <;> simp [KT]) hvars rfl Tryz.underlying4 hW (hfn _ _ _) hsat⟩
end
end Go.Proofs.YtcaojfapibkplaaGreatDoor
