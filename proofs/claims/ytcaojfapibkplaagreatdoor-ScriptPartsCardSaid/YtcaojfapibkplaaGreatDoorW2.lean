/- What the functions that build a system compute. -/
import Derived.Test.YtcaojfapibkplaaGreatDoorW1
namespace Go.Proofs.YtcaojfapibkplaaGreatDoor
open Go Go.Sl Go.En

/-- What comes of slices.Clone. -/
def CloneR {α : Type} (T sz : Nat) (en : α → List Value) (l : List α) (r : Value) (H : List Assn) : Prop := ∃ p c, r = .slice p l.length c ∧ H = [sA T sz en p c l]

theorem clone_int (F : Frm) (p : Option Addr) (c : Nat) (l : List Int) (hv : F.has (sA 3 1 intE p c l)) (hl : l.length ≤ 100000000) : FnOk Tryz.prog 58 [.slice p l.length c] [] F (CloneR 3 1 intE l) := by
  have hf := sA_addr hv
  refine Sl.FnOk.of (κ := [(0, _)]) Go.Proofs.Tryz.func58 rfl rfl Go.Proofs.Tryz.ntmps58 rfl rfl ?_
  refine Sl.Tr.seq ?_
  refine Sl.Tr.region ?_
  refine Sl.G.ro (Sl.RO.rd (Sl.RO.assign rfl)) rfl ?_
  refine Sl.G.nil ?_
  refine Sl.Post.thenN ?_
  refine Sl.Tr.seq ?_
  refine Sl.Tr.seq ?_
  refine Sl.Tr.region ?_
  refine Sl.G.ro (Sl.RO.rd (Sl.RO.move rfl)) rfl ?_
  refine Sl.G.ro (Sl.RO.rd (Sl.RO.eqlNil rfl rfl sl_120)) rfl ?_
  refine Sl.G.nil ?_
  refine Sl.Post.thenN ?_
  refine Sl.Tr.cond rfl (fun hb0 => ?_) (fun hb0 => ?_)
  refine Sl.Tr.seq ?_
  refine Sl.Tr.region ?_
  refine Sl.G.ro (Sl.RO.rd (Sl.RO.assign rfl)) rfl ?_
  refine Sl.G.nil ?_
  refine Sl.Post.thenN ?_
  refine Sl.Tr.ret ?_
  refine Sl.Post.thenR ?_
  rotate_left
  refine Sl.Tr.skip ?_
  refine Sl.Post.thenN ?_
  refine Sl.Tr.seq ?_
  refine Sl.Tr.region ?_
  refine Sl.G.buildSlice ap_120 rfl rfl rfl rfl rfl (fun b1 => ?_)
  refine Sl.G.ro (Sl.RO.rd (Sl.RO.move rfl)) rfl ?_
  rotate_left
  · have : p = none := by simpa using ‹p.isNone = true›
    obtain ⟨rfl, rfl⟩ := hf.2.1 this
    refine Sl.Post.nilS 3 1 intE ?_
    refine Sl.Post.fin rfl (.tmp rfl .nil) rfl (.p .h .n) ?_ (.inl rfl)
    exact ⟨_, _, rfl, rfl⟩
  · refine Sl.G.mem (fun hs => Sl.Sat.ptsA (l := []) intE.el (rfl) .h hs) ?_
    refine Sl.G.appendF Go.En.intE.el rfl rfl ap_120 rfl .h (by simp only [List.length_nil]; omega) hv rfl (fun p2 c3 => ?_)
    refine Sl.G.ro (Sl.RO.rd (Sl.RO.assign rfl)) rfl ?_
    refine Sl.G.nil ?_
    refine Sl.Post.thenN ?_
    refine Sl.Tr.ret ?_
    refine Sl.Post.fin rfl (.tmp rfl .nil) rfl (.p .h .n) ?_ (.inl rfl)
    exact ⟨_, _, rfl, rfl⟩

/-- Is n in these bounds? -/
def inB (n lo hi : Int) : Bool := decide (lo ≤ n ∧ n ≤ hi)
theorem sched_in (F : Frm) (n lo hi : Int) : FnOk Tryz.prog 38 [.int .i64 n, .int .i64 lo, .int .i64 hi] [] F (fun r H => r = .bool (inB n lo hi) ∧ H = []) := by
  refine Sl.FnOk.of (κ := [(0, _), (1, _), (2, _)]) Go.Proofs.Tryz.func38 rfl rfl Go.Proofs.Tryz.ntmps38 rfl rfl ?_
  refine Sl.Tr.seq ?_
  refine Sl.Tr.region ?_
  refine Sl.G.ro (Sl.RO.rd (Sl.RO.assign rfl)) rfl ?_
  refine Sl.G.nil ?_
  refine Sl.Post.thenN ?_
  refine Sl.Tr.seq ?_
  refine Sl.Tr.region ?_
  refine Sl.G.ro (Sl.RO.rd (Sl.RO.move rfl)) rfl ?_
  refine Sl.G.ro (Sl.RO.rd (Sl.RO.move rfl)) rfl ?_
  refine Sl.G.cmp (Sl.RO.geq rfl rfl) rfl (fun hc0 => ?_) (fun hc0 => ?_)
  refine Sl.G.ro (Sl.RO.rd (Sl.RO.move rfl)) rfl ?_
  refine Sl.G.un rfl ?_
  refine Sl.G.ro (Sl.RO.rd (Sl.RO.move rfl)) rfl ?_
  refine Sl.G.un rfl ?_
  refine Sl.G.ro (Sl.RO.rd (Sl.RO.move rfl)) rfl ?_
  refine Sl.G.un rfl ?_
  refine Sl.G.cmp (Sl.RO.leq rfl rfl) rfl (fun hc1 => ?_) (fun hc1 => ?_)
  refine Sl.G.ro (Sl.RO.rd (Sl.RO.pickT rfl rfl)) rfl ?_
  refine Sl.G.ro (Sl.RO.rd (Sl.RO.assign rfl)) rfl ?_
  refine Sl.G.nil ?_
  refine Sl.Post.thenN ?_
  refine Sl.Tr.ret ?_
  rotate_left
  refine Sl.G.ro (Sl.RO.rd (Sl.RO.pickT rfl rfl)) rfl ?_
  refine Sl.G.ro (Sl.RO.rd (Sl.RO.assign rfl)) rfl ?_
  refine Sl.G.nil ?_
  refine Sl.Post.thenN ?_
  refine Sl.Tr.ret ?_
  rotate_left
  refine Sl.G.ro (Sl.RO.rd (Sl.RO.move rfl)) rfl ?_
  refine Sl.G.pass rfl rfl ?_
  refine Sl.G.pass rfl rfl ?_
  refine Sl.G.pass rfl rfl ?_
  refine Sl.G.ro (Sl.RO.rd (Sl.RO.pickF rfl rfl)) rfl ?_
  refine Sl.G.ro (Sl.RO.rd (Sl.RO.assign rfl)) rfl ?_
  refine Sl.G.nil ?_
  refine Sl.Post.thenN ?_
  refine Sl.Tr.ret ?_
  rotate_left
  all_goals refine Sl.Post.fin rfl (.tmp rfl .nil) rfl .n ?_ (.inl rfl)
  all_goals (refine ⟨?_, rfl⟩; congr 1; rw [eq_comm]; unfold inB; first | (rw [decide_eq_true_eq]; omega) | (rw [decide_eq_false_iff_not]; omega))

def badRoom (n : Int) : Bool := decide (n < 0 ∨ 16 < n)
theorem queue_New_1 (F : Frm) (n : Int) : FnOk Tryz.prog 57 [.int .i64 n] [] F (fun r H => r = .bool (badRoom n) ∧ H = []) := by
  refine Sl.FnOk.of (κ := [(0, _)]) Go.Proofs.Tryz.func57 rfl rfl Go.Proofs.Tryz.ntmps57 rfl rfl ?_
  refine Sl.Tr.seq ?_
  refine Sl.Tr.region ?_
  refine Sl.G.ro (Sl.RO.rd (Sl.RO.assign rfl)) rfl ?_
  refine Sl.G.nil ?_
  refine Sl.Post.thenN ?_
  refine Sl.Tr.seq ?_
  refine Sl.Tr.region ?_
  refine Sl.G.ro (Sl.RO.rd (Sl.RO.move rfl)) rfl ?_
  refine Sl.G.cmp (Sl.RO.lss rfl rfl) rfl (fun hc0 => ?_) (fun hc0 => ?_)
  refine Sl.G.ro (Sl.RO.rd (Sl.RO.move rfl)) rfl ?_
  refine Sl.G.pass rfl rfl ?_
  refine Sl.G.pass rfl rfl ?_
  refine Sl.G.ro (Sl.RO.rd (Sl.RO.pickT rfl rfl)) rfl ?_
  refine Sl.G.ro (Sl.RO.rd (Sl.RO.assign rfl)) rfl ?_
  refine Sl.G.nil ?_
  refine Sl.Post.thenN ?_
  refine Sl.Tr.ret ?_
  rotate_left
  refine Sl.G.ro (Sl.RO.rd (Sl.RO.move rfl)) rfl ?_
  refine Sl.G.un rfl ?_
  refine Sl.G.ro (Sl.RO.rd (Sl.RO.move rfl)) rfl ?_
  refine Sl.G.un rfl ?_
  refine Sl.G.cmp (Sl.RO.gtr rfl rfl) rfl (fun hc1 => ?_) (fun hc1 => ?_)
  refine Sl.G.ro (Sl.RO.rd (Sl.RO.pickF rfl rfl)) rfl ?_
  refine Sl.G.ro (Sl.RO.rd (Sl.RO.assign rfl)) rfl ?_
  refine Sl.G.nil ?_
  refine Sl.Post.thenN ?_
  refine Sl.Tr.ret ?_
  rotate_left
  refine Sl.G.ro (Sl.RO.rd (Sl.RO.pickF rfl rfl)) rfl ?_
  refine Sl.G.ro (Sl.RO.rd (Sl.RO.assign rfl)) rfl ?_
  refine Sl.G.nil ?_
  refine Sl.Post.thenN ?_
  refine Sl.Tr.ret ?_
  rotate_left
  all_goals refine Sl.Post.fin rfl (.tmp rfl .nil) rfl .n ?_ (.inl rfl)
  all_goals (refine ⟨?_, rfl⟩; congr 1; rw [eq_comm]; unfold badRoom; first | (rw [decide_eq_true_eq]; omega) | (rw [decide_eq_false_iff_not]; omega))

theorem indexFunc (F : Frm) (p : Option Addr) (c : Nat) (l : List Int) (hv : F.has (sA 3 1 intE p c l)) (hl : l.length ≤ 100000000) : FnOk Tryz.prog 82 [.slice p l.length c, .func (.func 57) #[] #[]] [] F (fun r H => (∃ z : Int, r = .int .i64 z ∧ (0 ≤ z ↔ l.any badRoom = true)) ∧ H = []) := by
  refine Sl.FnOk.of (κ := [(0, _), (1, _)]) Go.Proofs.Tryz.func82 rfl rfl Go.Proofs.Tryz.ntmps82 rfl rfl ?_
  refine Sl.Tr.seq ?_
  refine Sl.Tr.region ?_
  refine Sl.G.ro (Sl.RO.rd (Sl.RO.assign rfl)) rfl ?_
  refine Sl.G.nil ?_
  refine Sl.Post.thenN ?_
  refine Sl.Tr.seq ?_
  refine Sl.Tr.seq ?_
  refine Sl.Tr.region ?_
  refine Sl.G.ro (Sl.RO.rd (Sl.RO.move rfl)) rfl ?_
  refine Sl.G.ro (Sl.RO.rd (Sl.RO.lenSl rfl sl_120)) rfl ?_
  refine Sl.G.ro (Sl.RO.rd (Sl.RO.move rfl)) rfl ?_
  refine Sl.G.nil ?_
  refine Sl.Post.thenN ?_
  refine Sl.Tr.block ?_
  refine Sl.Tr.loop (α := Nat) (fun i => [(8, .int .i64 (i : Nat))]) [(7, _), (6, _), (0, _), (1, _)] (fun _ => []) [] (fun i => i ≤ l.length ∧ ∀ x ∈ l.take i, badRoom x = false) (fun i => l.length - i) (0) ?_ ⟨rfl, trivial⟩ ⟨rfl, rfl, rfl, rfl, trivial⟩ .o ?_
  · exact ⟨Nat.zero_le _, by simp⟩
  rintro i ⟨hi, hn⟩
  dsimp only [List.cons_append, List.nil_append]
  (try dsimp only at *)
  refine Sl.Tr.seq ?_
  refine Sl.Tr.region ?_
  refine Sl.G.cmp (Sl.RO.lss rfl rfl) rfl (fun hc0 => ?_) (fun hc0 => ?_)
  refine Sl.G.nil ?_
  refine Sl.Post.thenN ?_
  refine Sl.Tr.seq ?_
  refine Sl.Tr.condT rfl ?_
  refine Sl.Tr.skip ?_
  refine Sl.Post.thenN ?_
  refine Sl.Tr.seq ?_
  refine Sl.Tr.block ?_
  refine Sl.Tr.seq ?_
  refine Sl.Tr.region ?_
  refine Sl.G.ro (Sl.RO.rd (Sl.RO.move rfl)) rfl ?_
  refine Sl.G.ro (Sl.RO.rd (Sl.RO.assign rfl)) rfl ?_
  refine Sl.G.nil ?_
  refine Sl.Post.thenN ?_
  refine Sl.Tr.seq ?_
  refine Sl.Tr.region ?_
  refine Sl.G.ro (Sl.RO.rd (Sl.RO.move rfl)) rfl ?_
  refine Sl.G.ro (Sl.RO.rd (Sl.RO.move rfl)) rfl ?_
  refine Sl.G.ro (Sl.RO.rd (Sl.RO.move rfl)) rfl ?_
  rotate_left
  refine Sl.G.nil ?_
  refine Sl.Post.thenN ?_
  refine Sl.Tr.seq ?_
  refine Sl.Tr.condF rfl ?_
  refine Sl.Tr.exit ?_
  refine Sl.Post.thenE ?_
  refine Sl.Post.thenE ?_
  refine Sl.Post.blockE ?_
  refine Sl.Post.thenN ?_
  refine Sl.Tr.seq ?_
  refine Sl.Tr.region ?_
  refine Sl.G.ro (Sl.RO.rd (Sl.RO.assign rfl)) rfl ?_
  refine Sl.G.nil ?_
  refine Sl.Post.thenN ?_
  refine Sl.Tr.ret ?_
  rotate_left
  · obtain ⟨x, hx⟩ := get_lt (l := l) (i := i) (by omega)
    refine Sl.G.ro (Sl.RO.rd (Sl.RO.atEl rfl rfl sl_120 hv (by assumption))) rfl ?_
    refine Sl.G.ro (Sl.RO.rd (Sl.RO.loadEp1 rfl hv (by assumption) ly_3 rfl)) rfl ?_
    refine Sl.G.call rfl rfl .n (.c .n) .n (fun G' hle hhas => queue_New_1 _ x) rfl (fun v K hR => ?_)
    obtain ⟨rfl, rfl⟩ := hR
    refine Sl.G.app .n ?_
    refine Sl.G.nil ?_
    refine Sl.Post.thenN ?_
    refine Sl.Tr.cond rfl (fun hb1 => ?_) (fun hb1 => ?_)
    refine Sl.Tr.seq ?_
    refine Sl.Tr.region ?_
    refine Sl.G.ro (Sl.RO.rd (Sl.RO.move rfl)) rfl ?_
    refine Sl.G.ro (Sl.RO.rd (Sl.RO.assign rfl)) rfl ?_
    refine Sl.G.nil ?_
    refine Sl.Post.thenN ?_
    refine Sl.Tr.ret ?_
    refine Sl.Post.blockR ?_
    refine Sl.Post.thenR ?_
    refine Sl.Post.thenR ?_
    refine Sl.Post.blockR ?_
    refine Sl.Post.thenR ?_
    rotate_left
    refine Sl.Tr.skip ?_
    refine Sl.Post.blockN ?_
    refine Sl.Post.thenN ?_
    refine Sl.Tr.region ?_
    refine Sl.G.ro (Sl.RO.rd (Sl.RO.addI rfl rfl (by omega))) rfl ?_
    refine Sl.G.ro (Sl.RO.rd (Sl.RO.move rfl)) rfl ?_
    refine Sl.G.nil ?_
    rotate_left
    · refine Sl.Post.fin rfl (.tmp rfl .nil) rfl .n ?_ (.inl rfl)
      exact ⟨⟨_, rfl, by simp only [List.any_eq_true]; exact ⟨fun _ => ⟨x, List.mem_of_getElem? hx, by assumption⟩, fun _ => by omega⟩⟩, rfl⟩
    · refine Sl.Post.again (i + 1) ?_ ?_ ?_ ?_ ?_
      rotate_left
      · omega
      · exact ⟨rfl, trivial⟩
      · exact ⟨rfl, rfl, rfl, rfl, trivial⟩
      · exact .o
      refine ⟨by omega, ?_⟩
      rw [take_succ' hx]
      intro y hy
      rcases List.mem_append.1 hy with h | h
      · exact hn y h
      · simp at h; subst h; assumption
  · obtain rfl : i = l.length := by omega
    rw [List.take_length] at hn
    refine Sl.Post.fin rfl (.tmp rfl .nil) rfl .n ?_ (.inl rfl)
    refine ⟨⟨_, rfl, ⟨fun h => by omega, fun h => ?_⟩⟩, rfl⟩
    obtain ⟨x, hx, hb⟩ := List.any_eq_true.1 h
    rw [hn x hx] at hb; cases hb

theorem containsFunc (F : Frm) (p : Option Addr) (c : Nat) (l : List Int) (hv : F.has (sA 3 1 intE p c l)) (hl : l.length ≤ 100000000) : FnOk Tryz.prog 56 [.slice p l.length c, .func (.func 57) #[] #[]] [] F (fun r H => r = .bool (l.any badRoom) ∧ H = []) := by
  refine Sl.FnOk.of (κ := [(0, _), (1, _)]) Go.Proofs.Tryz.func56 rfl rfl Go.Proofs.Tryz.ntmps56 rfl rfl ?_
  refine Sl.Tr.seq ?_
  refine Sl.Tr.region ?_
  refine Sl.G.ro (Sl.RO.rd (Sl.RO.assign rfl)) rfl ?_
  refine Sl.G.nil ?_
  refine Sl.Post.thenN ?_
  refine Sl.Tr.seq ?_
  refine Sl.Tr.region ?_
  refine Sl.G.ro (Sl.RO.rd (Sl.RO.move rfl)) rfl ?_
  refine Sl.G.ro (Sl.RO.rd (Sl.RO.move rfl)) rfl ?_
  refine Sl.G.call rfl rfl .n (.c (.c .n)) .n (fun G' hle hhas => indexFunc _ p c l (Frm.has_mono hv hle) hl) rfl (fun v K hR => ?_)
  obtain ⟨⟨z, rfl, hz⟩, rfl⟩ := hR
  refine Sl.G.app .n ?_
  refine Sl.G.cmp (Sl.RO.geq rfl rfl) rfl (fun hc0 => ?_) (fun hc0 => ?_)
  refine Sl.G.ro (Sl.RO.rd (Sl.RO.assign rfl)) rfl ?_
  refine Sl.G.nil ?_
  refine Sl.Post.thenN ?_
  refine Sl.Tr.ret ?_
  rotate_left
  refine Sl.G.ro (Sl.RO.rd (Sl.RO.assign rfl)) rfl ?_
  refine Sl.G.nil ?_
  refine Sl.Post.thenN ?_
  refine Sl.Tr.ret ?_
  rotate_left
  all_goals refine Sl.Post.fin rfl (.tmp rfl .nil) rfl .n ?_ (.inl rfl)
  all_goals refine ⟨?_, rfl⟩
  · rw [hz.1 (by assumption)]
  · congr 1
    cases h : l.any badRoom with
    | false => rfl
    | true => exact absurd (hz.2 h) (by assumption)

/-! the queues -/
/-- rows of waits: where each lies, and what is in it -/
structure RowV where
  p : Option Addr
  c : Nat
  l : List Wait
abbrev RowV.cells (r : RowV) : List Value := [.slice r.p r.l.length r.c]
theorem RowV.el : El RowV.cells 1 := ⟨fun _ => rfl, fun _ => rfl, by decide⟩
theorem queue_New (F : Frm) (p : Option Addr) (c : Nat) (l : List Int) (hv : F.has (sA 3 1 intE p c l)) (hl : l.length ≤ 100000000) : FnOk Tryz.prog 39 [.slice p l.length c] [] F
    (fun r H => if 1 ≤ l.length ∧ l.length ≤ 8 ∧ l.any badRoom = false then
      ∃ b pr pm cm, r = .tuple #[.pointer (some ⟨b, 0, none⟩), .int .i64 0] ∧ H = [pt b (cl [.slice pr (List.replicate l.length (RowV.mk none 0 [])).length l.length, .slice pm l.length cm] 163), sA 243 1 RowV.cells pr l.length (List.replicate l.length (RowV.mk none 0 [])), sA 3 1 intE pm cm l]
      else r = .tuple #[.pointer none, .int .i64 1] ∧ H = []) := by
  refine Sl.FnOk.of (κ := [(0, _)]) Go.Proofs.Tryz.func39 rfl rfl Go.Proofs.Tryz.ntmps39 rfl rfl ?_
  refine Sl.Tr.seq ?_
  refine Sl.Tr.region ?_
  refine Sl.G.ro (Sl.RO.rd (Sl.RO.assign rfl)) rfl ?_
  refine Sl.G.ro (Sl.RO.rd (Sl.RO.assign rfl)) rfl ?_
  refine Sl.G.nil ?_
  refine Sl.Post.thenN ?_
  refine Sl.Tr.seq ?_
  refine Sl.Tr.seq ?_
  refine Sl.Tr.region ?_
  refine Sl.G.ro (Sl.RO.rd (Sl.RO.move rfl)) rfl ?_
  refine Sl.G.ro (Sl.RO.rd (Sl.RO.lenSl rfl sl_120)) rfl ?_
  refine Sl.G.cmp (Sl.RO.lss rfl rfl) rfl (fun hc0 => ?_) (fun hc0 => ?_)
  refine Sl.G.ro (Sl.RO.rd (Sl.RO.move rfl)) rfl ?_
  refine Sl.G.pass rfl rfl ?_
  refine Sl.G.pass rfl rfl ?_
  refine Sl.G.pass rfl rfl ?_
  refine Sl.G.ro (Sl.RO.rd (Sl.RO.pickT rfl rfl)) rfl ?_
  refine Sl.G.ro (Sl.RO.rd (Sl.RO.move rfl)) rfl ?_
  refine Sl.G.pass rfl rfl ?_
  refine Sl.G.pass rfl rfl ?_
  refine Sl.G.ro (Sl.RO.rd (Sl.RO.pickT rfl rfl)) rfl ?_
  refine Sl.G.nil ?_
  refine Sl.Post.thenN ?_
  refine Sl.Tr.condT rfl ?_
  refine Sl.Tr.seq ?_
  refine Sl.Tr.region ?_
  refine Sl.G.ro (Sl.RO.rd (Sl.RO.assign rfl)) rfl ?_
  refine Sl.G.ro (Sl.RO.rd (Sl.RO.assign rfl)) rfl ?_
  refine Sl.G.nil ?_
  refine Sl.Post.thenN ?_
  refine Sl.Tr.ret ?_
  refine Sl.Post.thenR ?_
  rotate_left
  refine Sl.G.ro (Sl.RO.rd (Sl.RO.move rfl)) rfl ?_
  refine Sl.G.un rfl ?_
  refine Sl.G.ro (Sl.RO.rd (Sl.RO.move rfl)) rfl ?_
  refine Sl.G.un rfl ?_
  refine Sl.G.ro (Sl.RO.rd (Sl.RO.lenSl rfl sl_120)) rfl ?_
  refine Sl.G.un rfl ?_
  refine Sl.G.cmp (Sl.RO.gtr rfl rfl) rfl (fun hc1 => ?_) (fun hc1 => ?_)
  refine Sl.G.ro (Sl.RO.rd (Sl.RO.pickF rfl rfl)) rfl ?_
  refine Sl.G.ro (Sl.RO.rd (Sl.RO.move rfl)) rfl ?_
  refine Sl.G.pass rfl rfl ?_
  refine Sl.G.pass rfl rfl ?_
  refine Sl.G.ro (Sl.RO.rd (Sl.RO.pickT rfl rfl)) rfl ?_
  refine Sl.G.nil ?_
  refine Sl.Post.thenN ?_
  refine Sl.Tr.condT rfl ?_
  refine Sl.Tr.seq ?_
  refine Sl.Tr.region ?_
  refine Sl.G.ro (Sl.RO.rd (Sl.RO.assign rfl)) rfl ?_
  refine Sl.G.ro (Sl.RO.rd (Sl.RO.assign rfl)) rfl ?_
  refine Sl.G.nil ?_
  refine Sl.Post.thenN ?_
  refine Sl.Tr.ret ?_
  refine Sl.Post.thenR ?_
  rotate_left
  refine Sl.G.ro (Sl.RO.rd (Sl.RO.pickF rfl rfl)) rfl ?_
  refine Sl.G.ro (Sl.RO.rd (Sl.RO.move rfl)) rfl ?_
  refine Sl.G.un rfl ?_
  refine Sl.G.ro (Sl.RO.rd (Sl.RO.move rfl)) rfl ?_
  refine Sl.G.un rfl ?_
  rotate_left
  · refine Sl.Post.fin rfl (.tmp rfl (.tmp rfl .nil)) rfl .n ?_ (.inl rfl)
    rw [if_neg (by omega)]; exact ⟨rfl, rfl⟩
  · refine Sl.Post.fin rfl (.tmp rfl (.tmp rfl .nil)) rfl .n ?_ (.inl rfl)
    rw [if_neg (by omega)]; exact ⟨rfl, rfl⟩
  · refine Sl.G.call rfl rfl .n (.c (.c .n)) .n (fun G' hle hhas => containsFunc _ p c l (Frm.has_mono hv hle) hl) rfl (fun v K hR => ?_)
    obtain ⟨rfl, rfl⟩ := hR
    refine Sl.G.app .n ?_
    refine Sl.G.ro (Sl.RO.rd (Sl.RO.pickF rfl rfl)) rfl ?_
    refine Sl.G.nil ?_
    refine Sl.Post.thenN ?_
    refine Sl.Tr.cond rfl (fun hb2 => ?_) (fun hb2 => ?_)
    refine Sl.Tr.seq ?_
    refine Sl.Tr.region ?_
    refine Sl.G.ro (Sl.RO.rd (Sl.RO.assign rfl)) rfl ?_
    refine Sl.G.ro (Sl.RO.rd (Sl.RO.assign rfl)) rfl ?_
    refine Sl.G.nil ?_
    refine Sl.Post.thenN ?_
    refine Sl.Tr.ret ?_
    refine Sl.Post.thenR ?_
    rotate_left
    refine Sl.Tr.skip ?_
    refine Sl.Post.thenN ?_
    refine Sl.Tr.seq ?_
    rotate_left
    · refine Sl.Post.fin rfl (.tmp rfl (.tmp rfl .nil)) rfl .n ?_ (.inl rfl)
      rw [if_neg (by rintro ⟨_, _, h⟩; rw [‹l.any badRoom = true›] at h; cases h)]; exact ⟨rfl, rfl⟩
    · refine Sl.Tr.draw (fuel := 9) (listed := [false, false, false, false, false, false, false, false, false]) mixed rfl rfl ?_
      refine Sl.GD.take (i := 0) rfl rfl rfl (Sl.RO.move rfl) rfl ?_
      refine Sl.GD.take (i := 1) rfl rfl rfl (Sl.RO.lenSl rfl sl_120) rfl ?_
      refine Sl.GD.take (i := 3) rfl rfl rfl (Sl.RO.move rfl) rfl ?_
      refine Sl.GD.of2 (i := 2) (j := 4) rfl ?_ ?_
      · refine Sl.GD1.makeSlice (en := RowV.cells) (RowV.mk none 0 []) RowV.el rfl rfl rfl rfl ap_160 rfl rfl (by omega) rfl (fun pr prn => ?_)
        refine Sl.GD.call (i := 4) rfl rfl rfl rfl rfl .n (.c .n) .n (fun G' hle hhas => clone_int _ p c l (Frm.has_mono hv hle) hl) rfl (fun v K hR => ?_)
        obtain ⟨pm, cm, rfl, rfl⟩ := hR
        refine Sl.GD.app (.c .n) ?_
        refine Sl.GD.take (i := 5) rfl rfl rfl (Sl.RO.build pl_163 zv_163 rfl rfl) rfl ?_
        refine Sl.GD.acts (i := 6) rfl rfl rfl (Sl.Acts.box rfl rfl) rfl (fun _ _ hx => ?_) (fun _ hx => by obtain ⟨_, hx, _⟩ := hx; cases hx)
        (obtain ⟨b3, hv, rfl⟩ := hx; cases hv)
        refine Sl.GD.take (i := 7) rfl rfl rfl (Sl.RO.assign rfl) rfl ?_
        refine Sl.GD.take (i := 8) rfl rfl rfl (Sl.RO.assign rfl) rfl ?_
        refine Sl.GD.done rfl ?_
        refine Sl.Post.thenN ?_
        refine Sl.Tr.ret ?_
        refine Sl.Post.fin rfl (.tmp rfl (.tmp rfl .nil)) rfl (.p .h (.p (.t .h) (.p .h .n))) ?_ (.inl rfl)
        rw [if_pos ⟨by omega, by omega, by assumption⟩]
        exact ⟨_, _, _, _, rfl, rfl⟩
      · refine Sl.GD1.call rfl rfl rfl rfl .n (.c .n) .n (fun G' hle hhas => clone_int _ p c l (Frm.has_mono hv hle) hl) rfl (fun v K hR => ?_)
        obtain ⟨pm, cm, rfl, rfl⟩ := hR
        refine Sl.GD.app (.c .n) ?_
        refine Sl.GD.makeSlice (i := 2) (en := RowV.cells) (RowV.mk none 0 []) RowV.el rfl rfl rfl rfl rfl ap_160 rfl rfl (by omega) rfl (fun pr prn => ?_)
        refine Sl.GD.take (i := 5) rfl rfl rfl (Sl.RO.build pl_163 zv_163 rfl rfl) rfl ?_
        refine Sl.GD.acts (i := 6) rfl rfl rfl (Sl.Acts.box rfl rfl) rfl (fun _ _ hx => ?_) (fun _ hx => by obtain ⟨_, hx, _⟩ := hx; cases hx)
        (obtain ⟨b4, hv, rfl⟩ := hx; cases hv)
        refine Sl.GD.take (i := 7) rfl rfl rfl (Sl.RO.assign rfl) rfl ?_
        refine Sl.GD.take (i := 8) rfl rfl rfl (Sl.RO.assign rfl) rfl ?_
        refine Sl.GD.done rfl ?_
        refine Sl.Post.thenN ?_
        refine Sl.Tr.ret ?_
        refine Sl.Post.fin rfl (.tmp rfl (.tmp rfl .nil)) rfl (.p .h (.p .h (.p .h .n))) ?_ (.inl rfl)
        rw [if_pos ⟨by omega, by omega, by assumption⟩]
        exact ⟨_, _, _, _, rfl, rfl⟩
/-! gang.New, timer.New -/
def kx_180 : Int → Value := ekI
def vx_180 : Int → Value := ekI
theorem gang_New (F : Frm) : FnOk Tryz.prog 43 [] [] F (fun r H => ∃ b c, r = .pointer (some ⟨b, 0, none⟩) ∧ H = [pt b (cl [.slice none 0 0, .map (some c)] 183), mA ekI ekI c ([] : List (Int × Int))]) := by
  refine Sl.FnOk.of (κ := []) Go.Proofs.Tryz.func43 rfl rfl Go.Proofs.Tryz.ntmps43 rfl rfl ?_
  refine Sl.Tr.seq ?_
  refine Sl.Tr.region ?_
  refine Sl.G.ro (Sl.RO.rd (Sl.RO.assign rfl)) rfl ?_
  refine Sl.G.nil ?_
  refine Sl.Post.thenN ?_
  refine Sl.Tr.seq ?_
  refine Sl.Tr.region ?_
  refine Sl.G.makeMap kx_180 vx_180 rfl (fun b0 => ?_)
  refine Sl.G.ro (Sl.RO.rd (Sl.RO.build pl_183 zv_183 rfl rfl)) rfl ?_
  refine Sl.G.box rfl rfl rfl (fun b1 => ?_)
  refine Sl.G.ro (Sl.RO.rd (Sl.RO.assign rfl)) rfl ?_
  refine Sl.G.nil ?_
  refine Sl.Post.thenN ?_
  refine Sl.Tr.ret ?_
  refine Sl.Post.fin rfl (.tmp rfl .nil) rfl (.p .h (.p .h .n)) ?_ (.inl rfl)
  exact ⟨_, _, rfl, rfl⟩
theorem timer_New (F : Frm) : FnOk Tryz.prog 44 [] [] F (fun r H => ∃ b c, r = .pointer (some ⟨b, 0, none⟩) ∧ H = [pt b (cl [.slice none 0 0, .map (some c)] 188), mA ekI ekI c ([] : List (Int × Int))]) := by
  refine Sl.FnOk.of (κ := []) Go.Proofs.Tryz.func44 rfl rfl Go.Proofs.Tryz.ntmps44 rfl rfl ?_
  refine Sl.Tr.seq ?_
  refine Sl.Tr.region ?_
  refine Sl.G.ro (Sl.RO.rd (Sl.RO.assign rfl)) rfl ?_
  refine Sl.G.nil ?_
  refine Sl.Post.thenN ?_
  refine Sl.Tr.seq ?_
  refine Sl.Tr.region ?_
  refine Sl.G.makeMap kx_180 vx_180 rfl (fun b0 => ?_)
  refine Sl.G.ro (Sl.RO.rd (Sl.RO.build pl_188 zv_188 rfl rfl)) rfl ?_
  refine Sl.G.box rfl rfl rfl (fun b1 => ?_)
  refine Sl.G.ro (Sl.RO.rd (Sl.RO.assign rfl)) rfl ?_
  refine Sl.G.nil ?_
  refine Sl.Post.thenN ?_
  refine Sl.Tr.ret ?_
  refine Sl.Post.fin rfl (.tmp rfl .nil) rfl (.p .h (.p .h .n)) ?_ (.inl rfl)
  exact ⟨_, _, rfl, rfl⟩

def goodU (u : Units) : Bool := decide (0 ≤ u.gpus ∧ u.gpus ≤ 1048576 ∧ 0 ≤ u.cpus ∧ u.cpus ≤ 1048576)
theorem quota_right (F : Frm) (u : Units) : FnOk Tryz.prog 83 [u.enc] [] F (fun r H => r = .bool (goodU u) ∧ H = []) := by
  refine Sl.FnOk.of (κ := [(0, _)]) Go.Proofs.Tryz.func83 rfl rfl Go.Proofs.Tryz.ntmps83 rfl rfl ?_
  refine Sl.Tr.seq ?_
  refine Sl.Tr.region ?_
  refine Sl.G.box rfl rfl rfl (fun b0 => ?_)
  refine Sl.G.ro (Sl.RO.rd (Sl.RO.assign rfl)) rfl ?_
  refine Sl.G.nil ?_
  refine Sl.Post.thenN ?_
  refine Sl.Tr.seq ?_
  refine Sl.Tr.region ?_
  refine Sl.G.ro (Sl.RO.rd (Sl.RO.fieldAddr rfl fo_104_0)) rfl ?_
  refine Sl.G.ro (Sl.RD.load1 rfl .h ly_3 rfl) rfl ?_
  refine Sl.G.cmp (Sl.RO.geq rfl rfl) rfl (fun hc1 => ?_) (fun hc1 => ?_)
  refine Sl.G.ro (Sl.RO.rd (Sl.RO.move rfl)) rfl ?_
  refine Sl.G.un rfl ?_
  refine Sl.G.ro (Sl.RO.rd (Sl.RO.fieldAddr rfl fo_104_0)) rfl ?_
  refine Sl.G.un rfl ?_
  refine Sl.G.ro (Sl.RD.load1 rfl .h ly_3 rfl) rfl ?_
  refine Sl.G.un rfl ?_
  refine Sl.G.cmp (Sl.RO.leq rfl rfl) rfl (fun hc2 => ?_) (fun hc2 => ?_)
  refine Sl.G.ro (Sl.RO.rd (Sl.RO.pickT rfl rfl)) rfl ?_
  refine Sl.G.ro (Sl.RO.rd (Sl.RO.move rfl)) rfl ?_
  refine Sl.G.un rfl ?_
  refine Sl.G.ro (Sl.RO.rd (Sl.RO.fieldAddr rfl fo_104_1)) rfl ?_
  refine Sl.G.un rfl ?_
  refine Sl.G.ro (Sl.RD.load1 rfl .h ly_3 rfl) rfl ?_
  refine Sl.G.un rfl ?_
  refine Sl.G.cmp (Sl.RO.geq rfl rfl) rfl (fun hc3 => ?_) (fun hc3 => ?_)
  refine Sl.G.ro (Sl.RO.rd (Sl.RO.pickT rfl rfl)) rfl ?_
  refine Sl.G.ro (Sl.RO.rd (Sl.RO.move rfl)) rfl ?_
  refine Sl.G.un rfl ?_
  refine Sl.G.ro (Sl.RO.rd (Sl.RO.fieldAddr rfl fo_104_1)) rfl ?_
  refine Sl.G.un rfl ?_
  refine Sl.G.ro (Sl.RD.load1 rfl .h ly_3 rfl) rfl ?_
  refine Sl.G.un rfl ?_
  refine Sl.G.cmp (Sl.RO.leq rfl rfl) rfl (fun hc4 => ?_) (fun hc4 => ?_)
  refine Sl.G.ro (Sl.RO.rd (Sl.RO.pickT rfl rfl)) rfl ?_
  refine Sl.G.ro (Sl.RO.rd (Sl.RO.assign rfl)) rfl ?_
  refine Sl.G.nil ?_
  refine Sl.Post.thenN ?_
  refine Sl.Tr.ret ?_
  rotate_left
  refine Sl.G.ro (Sl.RO.rd (Sl.RO.pickT rfl rfl)) rfl ?_
  refine Sl.G.ro (Sl.RO.rd (Sl.RO.assign rfl)) rfl ?_
  refine Sl.G.nil ?_
  refine Sl.Post.thenN ?_
  refine Sl.Tr.ret ?_
  rotate_left
  refine Sl.G.ro (Sl.RO.rd (Sl.RO.pickT rfl rfl)) rfl ?_
  refine Sl.G.ro (Sl.RO.rd (Sl.RO.move rfl)) rfl ?_
  refine Sl.G.pass rfl rfl ?_
  refine Sl.G.pass rfl rfl ?_
  refine Sl.G.pass rfl rfl ?_
  refine Sl.G.ro (Sl.RO.rd (Sl.RO.pickF rfl rfl)) rfl ?_
  refine Sl.G.ro (Sl.RO.rd (Sl.RO.assign rfl)) rfl ?_
  refine Sl.G.nil ?_
  refine Sl.Post.thenN ?_
  refine Sl.Tr.ret ?_
  rotate_left
  refine Sl.G.ro (Sl.RO.rd (Sl.RO.pickT rfl rfl)) rfl ?_
  refine Sl.G.ro (Sl.RO.rd (Sl.RO.move rfl)) rfl ?_
  refine Sl.G.pass rfl rfl ?_
  refine Sl.G.pass rfl rfl ?_
  refine Sl.G.pass rfl rfl ?_
  refine Sl.G.ro (Sl.RO.rd (Sl.RO.pickF rfl rfl)) rfl ?_
  refine Sl.G.ro (Sl.RO.rd (Sl.RO.move rfl)) rfl ?_
  refine Sl.G.pass rfl rfl ?_
  refine Sl.G.pass rfl rfl ?_
  refine Sl.G.pass rfl rfl ?_
  refine Sl.G.ro (Sl.RO.rd (Sl.RO.pickF rfl rfl)) rfl ?_
  refine Sl.G.ro (Sl.RO.rd (Sl.RO.assign rfl)) rfl ?_
  refine Sl.G.nil ?_
  refine Sl.Post.thenN ?_
  refine Sl.Tr.ret ?_
  rotate_left
  refine Sl.G.ro (Sl.RO.rd (Sl.RO.move rfl)) rfl ?_
  refine Sl.G.pass rfl rfl ?_
  refine Sl.G.pass rfl rfl ?_
  refine Sl.G.pass rfl rfl ?_
  refine Sl.G.ro (Sl.RO.rd (Sl.RO.pickF rfl rfl)) rfl ?_
  refine Sl.G.ro (Sl.RO.rd (Sl.RO.move rfl)) rfl ?_
  refine Sl.G.pass rfl rfl ?_
  refine Sl.G.pass rfl rfl ?_
  refine Sl.G.pass rfl rfl ?_
  refine Sl.G.ro (Sl.RO.rd (Sl.RO.pickF rfl rfl)) rfl ?_
  refine Sl.G.ro (Sl.RO.rd (Sl.RO.move rfl)) rfl ?_
  refine Sl.G.pass rfl rfl ?_
  refine Sl.G.pass rfl rfl ?_
  refine Sl.G.pass rfl rfl ?_
  refine Sl.G.ro (Sl.RO.rd (Sl.RO.pickF rfl rfl)) rfl ?_
  refine Sl.G.ro (Sl.RO.rd (Sl.RO.assign rfl)) rfl ?_
  refine Sl.G.nil ?_
  refine Sl.Post.thenN ?_
  refine Sl.Tr.ret ?_
  rotate_left
  all_goals refine Sl.Post.fin rfl (.tmp rfl .nil) rfl .n ?_ (.inl rfl)
  all_goals (refine ⟨?_, rfl⟩; congr 1; rw [eq_comm]; unfold goodU; first | (rw [decide_eq_true_eq]; omega) | (rw [decide_eq_false_iff_not]; omega))

end Go.Proofs.YtcaojfapibkplaaGreatDoor
namespace Go.Proofs.YtcaojfapibkplaaGreatDoor
open Go Go.Sl Go.En

/-- an account: where it lies, its limit, what is used -/
structure AccV where
  b : Nat
  lim : Units
  used : Units
abbrev AccV.cells (a : AccV) : List Value := [.pointer (some ⟨a.b, 0, none⟩)]
abbrev AccV.mem (T : Nat) (a : AccV) : Assn := pt a.b (cl [.int .i64 a.lim.gpus, .int .i64 a.lim.cpus, .int .i64 a.used.gpus, .int .i64 a.used.cpus] T)
abbrev AccV.pure (a : AccV) : Units × Units := (a.lim, a.used)
theorem AccV.el : El AccV.cells 1 := ⟨fun _ => rfl, fun _ => rfl, by decide⟩
def goodQ (l : List Units) : Bool := decide (1 ≤ l.length ∧ l.length ≤ 8) && l.all goodU

theorem quota_New (F : Frm) (p : Option Addr) (c : Nat) (l : List Units) (hv : F.has (sA 104 2 Units.cells p c l)) : FnOk Tryz.prog 60 [.slice p l.length c] [] F
    (fun r H => if goodQ l = true then ∃ b q e acs, r = .tuple #[.pointer (some ⟨b, 0, none⟩), .int .i64 0] ∧ acs.map AccV.pure = l.map (fun u => (u, ⟨0, 0⟩)) ∧ H = [pt b (cl [.slice q acs.length e] 229), sA 231 1 AccV.cells q e acs, sep (acs.map (AccV.mem 233))]
      else r = .tuple #[.pointer none, .int .i64 1] ∧ H = []) := by
  refine Sl.FnOk.of (κ := [(0, _)]) Go.Proofs.Tryz.func60 rfl rfl Go.Proofs.Tryz.ntmps60 rfl rfl ?_
  refine Sl.Tr.seq ?_
  refine Sl.Tr.region ?_
  refine Sl.G.ro (Sl.RO.rd (Sl.RO.assign rfl)) rfl ?_
  refine Sl.G.ro (Sl.RO.rd (Sl.RO.assign rfl)) rfl ?_
  refine Sl.G.nil ?_
  refine Sl.Post.thenN ?_
  refine Sl.Tr.seq ?_
  refine Sl.Tr.seq ?_
  refine Sl.Tr.region ?_
  refine Sl.G.ro (Sl.RO.rd (Sl.RO.move rfl)) rfl ?_
  refine Sl.G.ro (Sl.RO.rd (Sl.RO.lenSl rfl sl_121)) rfl ?_
  refine Sl.G.cmp (Sl.RO.lss rfl rfl) rfl (fun hc0 => ?_) (fun hc0 => ?_)
  refine Sl.G.ro (Sl.RO.rd (Sl.RO.move rfl)) rfl ?_
  refine Sl.G.pass rfl rfl ?_
  refine Sl.G.pass rfl rfl ?_
  refine Sl.G.pass rfl rfl ?_
  refine Sl.G.ro (Sl.RO.rd (Sl.RO.pickT rfl rfl)) rfl ?_
  refine Sl.G.nil ?_
  refine Sl.Post.thenN ?_
  refine Sl.Tr.condT rfl ?_
  refine Sl.Tr.seq ?_
  refine Sl.Tr.region ?_
  refine Sl.G.ro (Sl.RO.rd (Sl.RO.assign rfl)) rfl ?_
  refine Sl.G.ro (Sl.RO.rd (Sl.RO.assign rfl)) rfl ?_
  refine Sl.G.nil ?_
  refine Sl.Post.thenN ?_
  refine Sl.Tr.ret ?_
  refine Sl.Post.thenR ?_
  rotate_left
  refine Sl.G.ro (Sl.RO.rd (Sl.RO.move rfl)) rfl ?_
  refine Sl.G.un rfl ?_
  refine Sl.G.ro (Sl.RO.rd (Sl.RO.move rfl)) rfl ?_
  refine Sl.G.un rfl ?_
  refine Sl.G.ro (Sl.RO.rd (Sl.RO.lenSl rfl sl_121)) rfl ?_
  refine Sl.G.un rfl ?_
  refine Sl.G.cmp (Sl.RO.gtr rfl rfl) rfl (fun hc1 => ?_) (fun hc1 => ?_)
  refine Sl.G.ro (Sl.RO.rd (Sl.RO.pickF rfl rfl)) rfl ?_
  refine Sl.G.nil ?_
  refine Sl.Post.thenN ?_
  refine Sl.Tr.condT rfl ?_
  refine Sl.Tr.seq ?_
  refine Sl.Tr.region ?_
  refine Sl.G.ro (Sl.RO.rd (Sl.RO.assign rfl)) rfl ?_
  refine Sl.G.ro (Sl.RO.rd (Sl.RO.assign rfl)) rfl ?_
  refine Sl.G.nil ?_
  refine Sl.Post.thenN ?_
  refine Sl.Tr.ret ?_
  refine Sl.Post.thenR ?_
  rotate_left
  refine Sl.G.ro (Sl.RO.rd (Sl.RO.pickF rfl rfl)) rfl ?_
  refine Sl.G.nil ?_
  refine Sl.Post.thenN ?_
  refine Sl.Tr.condF rfl ?_
  refine Sl.Tr.skip ?_
  refine Sl.Post.thenN ?_
  refine Sl.Tr.seq ?_
  refine Sl.Tr.region ?_
  refine Sl.G.ro (Sl.RO.rd (Sl.RO.build pl_229 zv_229 rfl rfl)) rfl ?_
  refine Sl.G.box rfl rfl rfl (fun b2 => ?_)
  refine Sl.G.ro (Sl.RO.rd (Sl.RO.assign rfl)) rfl ?_
  refine Sl.G.nil ?_
  refine Sl.Post.thenN ?_
  refine Sl.Tr.seq ?_
  refine Sl.Tr.seq ?_
  refine Sl.Tr.region ?_
  refine Sl.G.ro (Sl.RO.rd (Sl.RO.move rfl)) rfl ?_
  refine Sl.G.ro (Sl.RO.rd (Sl.RO.lenSl rfl sl_121)) rfl ?_
  refine Sl.G.ro (Sl.RO.rd (Sl.RO.move rfl)) rfl ?_
  refine Sl.G.nil ?_
  refine Sl.Post.thenN ?_
  refine Sl.Tr.block ?_
  rotate_left
  · refine Sl.Post.fin rfl (.tmp rfl (.tmp rfl .nil)) rfl .n ?_ (.inl rfl)
    rw [if_neg (by simp [goodQ]; omega)]; exact ⟨rfl, rfl⟩
  · refine Sl.Post.fin rfl (.tmp rfl (.tmp rfl .nil)) rfl .n ?_ (.inl rfl)
    rw [if_neg (by simp [goodQ]; omega)]; exact ⟨rfl, rfl⟩
  · skip
    refine Sl.Tr.nilS 231 1 AccV.cells ?_
    refine Tr.mem (fun h => Sat.sep_nil h) ?_
    refine Sl.Tr.loop (α := Nat × List AccV × Option Addr × Nat) (fun g => [(19, .int .i64 (g.1 : Nat))]) [(18, _), (17, _), (4, _), (16, _), (15, _), (14, _), (13, _), (12, _), (11, _), (10, _), (9, _), (8, _), (7, _), (0, _)] (fun g => [pt b2 (cl [.slice g.2.2.1 g.2.1.length g.2.2.2] 229), sA 231 1 AccV.cells g.2.2.1 g.2.2.2 g.2.1, sep (g.2.1.map (AccV.mem 233))]) [] (fun g => g.1 ≤ l.length ∧ g.2.1.map AccV.pure = (l.take g.1).map (fun u => (u, ⟨0, 0⟩)) ∧ ∀ u ∈ l.take g.1, goodU u = true) (fun g => l.length - g.1) ((0, [], none, 0)) ?_ ⟨rfl, trivial⟩ ⟨rfl, rfl, rfl, rfl, rfl, rfl, rfl, rfl, rfl, rfl, rfl, rfl, rfl, rfl, trivial⟩ (.p (.t (.t .h)) (.p (.t .h) (.p .h .o))) ?_
    · exact ⟨Nat.zero_le _, rfl, by simp⟩
    rintro ⟨i, acs, q, e⟩ ⟨hi, ha, hg⟩
    dsimp only [List.cons_append, List.nil_append]
    (try dsimp only at *)
    have hal : acs.length = i := by have := congrArg List.length ha; simpa [hi] using this
    refine Sl.Tr.seq ?_
    refine Sl.Tr.region ?_
    refine Sl.G.cmp (Sl.RO.lss rfl rfl) rfl (fun hc3 => ?_) (fun hc3 => ?_)
    refine Sl.G.nil ?_
    refine Sl.Post.thenN ?_
    refine Sl.Tr.seq ?_
    refine Sl.Tr.condT rfl ?_
    refine Sl.Tr.skip ?_
    refine Sl.Post.thenN ?_
    refine Sl.Tr.seq ?_
    refine Sl.Tr.block ?_
    refine Sl.Tr.seq ?_
    refine Sl.Tr.region ?_
    rotate_left
    refine Sl.G.nil ?_
    refine Sl.Post.thenN ?_
    refine Sl.Tr.seq ?_
    refine Sl.Tr.condF rfl ?_
    refine Sl.Tr.exit ?_
    refine Sl.Post.thenE ?_
    refine Sl.Post.thenE ?_
    refine Sl.Post.blockE ?_
    refine Sl.Post.thenN ?_
    refine Sl.Tr.seq ?_
    refine Sl.Tr.region ?_
    refine Sl.G.ro (Sl.RO.rd (Sl.RO.move rfl)) rfl ?_
    refine Sl.G.ro (Sl.RO.rd (Sl.RO.assign rfl)) rfl ?_
    refine Sl.G.ro (Sl.RO.rd (Sl.RO.assign rfl)) rfl ?_
    refine Sl.G.nil ?_
    refine Sl.Post.thenN ?_
    refine Sl.Tr.ret ?_
    rotate_left
    · obtain ⟨u, hu⟩ := get_lt (l := l) (i := i) (by omega)
      refine Sl.G.ro (Sl.RO.rd (Sl.RO.atEl rfl rfl sl_121 hv (by assumption))) rfl ?_
      refine Sl.G.ro (Sl.RO.rd (Sl.RO.loadEp rfl hv (by assumption) ly_104 rfl)) rfl ?_
      refine Sl.G.alloc zv_104 rfl (fun b4 => ?_)
      refine Sl.G.store rfl rfl rfl rfl ly_104 rfl .h rfl ?_
      refine Sl.G.nil ?_
      refine Sl.Post.thenN ?_
      refine Sl.Tr.seq ?_
      refine Sl.Tr.seq ?_
      refine Sl.Tr.region ?_
      refine Sl.G.ro (Sl.RD.load rfl .h ly_104 rfl) rfl ?_
      refine Sl.G.call rfl rfl .n (.c .n) .n (fun G' hle hhas => quota_right _ u) rfl (fun v K hR => ?_)
      obtain ⟨rfl, rfl⟩ := hR
      refine Sl.G.app .n ?_
      refine Sl.G.ro (Sl.RO.rd (Sl.RO.not rfl)) rfl ?_
      refine Sl.G.nil ?_
      refine Sl.Post.thenN ?_
      refine Sl.Tr.cond rfl (fun hb5 => ?_) (fun hb5 => ?_)
      refine Sl.Tr.seq ?_
      refine Sl.Tr.region ?_
      refine Sl.G.ro (Sl.RO.rd (Sl.RO.assign rfl)) rfl ?_
      refine Sl.G.ro (Sl.RO.rd (Sl.RO.assign rfl)) rfl ?_
      refine Sl.G.nil ?_
      refine Sl.Post.thenN ?_
      refine Sl.Tr.ret ?_
      refine Sl.Post.thenR ?_
      refine Sl.Post.blockR ?_
      refine Sl.Post.thenR ?_
      refine Sl.Post.thenR ?_
      refine Sl.Post.blockR ?_
      refine Sl.Post.thenR ?_
      rotate_left
      refine Sl.Tr.skip ?_
      refine Sl.Post.thenN ?_
      rotate_left
      rotate_left
      · refine Sl.Tr.freeze .h (fun G6 hle6 hfz6 back6 thaw6 => ?_)
        have hv_6 := Sl.Frm.has_mono hv hle6
        refine Sl.Tr.freeze .h (fun G7 hle7 hfz7 back7 thaw7 => ?_)
        have hfz6_7 := Sl.Frm.has_mono hfz6 hle7
        have hv_6_7 := Sl.Frm.has_mono hv_6 hle7
        refine Sl.Tr.draw (fuel := 13) (listed := [false, false, false, false, false, false, false, false, false, false, false, false, false]) mixed rfl rfl ?_
        refine Sl.GD.take (i := 0) rfl rfl rfl (Sl.RO.move rfl) rfl ?_
        refine Sl.GD.take (i := 1) rfl rfl rfl (Sl.RO.move rfl) rfl ?_
        refine Sl.GD.take (i := 2) rfl rfl rfl (Sl.RO.nilCheck rfl) rfl ?_
        refine Sl.GD.take (i := 3) rfl rfl rfl (Sl.RO.fieldAddr rfl fo_229_0) rfl ?_
        refine Sl.GD.take (i := 4) rfl rfl rfl (Sl.RO.load1 rfl hfz7 ly_227 rfl) rfl ?_
        refine Sl.GD.take (i := 5) rfl rfl rfl (Sl.RO.load rfl hfz6_7 ly_104 rfl) rfl ?_
        refine Sl.GD.take (i := 6) rfl rfl rfl (Sl.RO.build pl_233 zv_233 rfl rfl) rfl ?_
        refine Sl.GD.acts (i := 7) rfl rfl rfl (Sl.Acts.box rfl rfl) rfl (fun _ _ hx => ?_) (fun _ hx => by obtain ⟨_, hx, _⟩ := hx; cases hx)
        (obtain ⟨b8, hv, rfl⟩ := hx; cases hv)
        refine Sl.GD.acts (i := 8) rfl rfl rfl (Sl.Acts.buildSlice ap_227 rfl rfl rfl rfl) rfl (fun _ _ hx => ?_) (fun _ hx => by obtain ⟨_, hx, _⟩ := hx; cases hx)
        (obtain ⟨b9, hv, rfl⟩ := hx; cases hv)
        refine Sl.GD.append1 (i := 9) (AccV.mk b8 u (Units.mk 0 0)) Go.Proofs.YtcaojfapibkplaaGreatDoor.AccV.el rfl rfl rfl rfl rfl ap_227 rfl (.t (.t .h)) (by omega) .h rfl rfl (fun p10 c11 => ?_)
        refine Sl.GD.take (i := 10) rfl rfl rfl (Sl.RO.nilCheck rfl) rfl ?_
        refine Sl.GD.take (i := 11) rfl rfl rfl (Sl.RO.fieldAddr rfl fo_229_0) rfl ?_
        refine Sl.GD.thaw (i := 12) thaw7 rfl ?_
        refine Sl.GD.thaw (i := 12) thaw6 rfl ?_
        refine Sl.GD.store (i := 12) rfl rfl rfl rfl rfl rfl rfl ly_227 rfl (.t .h) rfl ?_
        refine Sl.GD.done rfl ?_
        refine Sl.Post.blockN ?_
        refine Sl.Post.thenN ?_
        refine Sl.Tr.region ?_
        refine Sl.G.ro (Sl.RO.rd (Sl.RO.addI rfl rfl (by omega))) rfl ?_
        refine Sl.G.ro (Sl.RO.rd (Sl.RO.move rfl)) rfl ?_
        refine Sl.G.nil ?_
        refine Post.mem (fun h => Sat.sepMap (f := AccV.mem 233) (a := AccV.mk b8 u (Units.mk 0 0)) (l := acs) (.t (.t (.t (.t .h)))) (.t (.t (.t (.t .h)))) h) ?_
        refine Sl.Post.again ((i + 1, acs ++ [AccV.mk b8 u (Units.mk 0 0)], p10, c11)) ?_ ?_ ?_ ?_ ?_
        rotate_left
        · omega
        · exact ⟨rfl, trivial⟩
        · exact ⟨rfl, rfl, rfl, rfl, rfl, rfl, rfl, rfl, rfl, rfl, rfl, rfl, rfl, rfl, trivial⟩
        · exact (.p (.t (.t .h)) (.p (.t (.t .h)) (.p .h .o)))
        refine ⟨by omega, by rw [take_succ' hu, List.map_append, List.map_append, ha]; rfl, ?_⟩
        rw [take_succ' hu]
        intro y hy
        rcases List.mem_append.1 hy with h | h
        · exact hg y h
        · simp at h; subst h
          have h2 := ‹(!goodU y) = false›
          simpa using h2
      · refine Sl.Post.fin rfl (.tmp rfl (.tmp rfl .nil)) rfl .n ?_ (.inl rfl)
        rw [if_neg]
        · exact ⟨rfl, rfl⟩
        · intro h
          have h1 : goodU u = true := List.all_eq_true.1 (by simp only [goodQ, Bool.and_eq_true] at h; exact h.2) u (List.mem_of_getElem? hu)
          have h2 := ‹(!goodU u) = true›
          rw [h1] at h2; cases h2
    · obtain rfl : i = l.length := by omega
      rw [List.take_length] at ha hg
      refine Sl.Post.fin rfl (.tmp rfl (.tmp rfl .nil)) rfl (.p .h (.p .h (.p .h .n))) ?_ (.inl rfl)
      rw [if_pos (by simp only [goodQ, Bool.and_eq_true, decide_eq_true_eq, List.all_eq_true]; exact ⟨by omega, hg⟩)]
      exact ⟨_, _, _, _, rfl, ha, rfl⟩
end Go.Proofs.YtcaojfapibkplaaGreatDoor
namespace Go.Proofs.YtcaojfapibkplaaGreatDoor
open Go Go.Sl Go.En

abbrev spotC (s : Int × Int) : List Value := [.int .i64 s.1, .int .i64 s.2]
abbrev ekSpot (s : Int × Int) : Value := .agg (spotC s).toArray
theorem ekSpot_ok : KeyOk Tryz.prog 153 ekSpot := keyS (en := spotC) (by kernel_rfl) ly_153 (fun _ => rfl) (fun _ _ => rfl) (fun a b => by
  rw [Bool.eq_iff_iff]; obtain ⟨a, b⟩ := a; simp [eqI, Prod.ext_iff]) (fun _ => rfl) (by decide)
abbrev kx_149 : Int × Int → Value := ekSpot
abbrev vx_149 : Int → Value := ekI

def maskFirst (n : Int) : Int := IntKind.u64.wrap (IntKind.u64.wrap (1 * 2 ^ min (max 0 (min n 64)).toNat IntKind.u64.bits) - 1)
theorem mask_First (F : Frm) (n : Int) : FnOk Tryz.prog 55 [.int .i64 n] [] F (fun r H => r = .int .u64 (maskFirst n) ∧ H = []) := by
  refine Sl.FnOk.of (κ := [(0, _)]) Go.Proofs.Tryz.func55 rfl rfl Go.Proofs.Tryz.ntmps55 rfl rfl ?_
  refine Sl.Tr.seq ?_
  refine Sl.Tr.region ?_
  refine Sl.G.ro (Sl.RO.rd (Sl.RO.assign rfl)) rfl ?_
  refine Sl.G.nil ?_
  refine Sl.Post.thenN ?_
  refine Sl.Tr.seq ?_
  refine Sl.Tr.region ?_
  refine Sl.G.ro (Sl.RO.rd (Sl.RO.move rfl)) rfl ?_
  refine Sl.G.ro (Sl.RO.rd (Sl.RO.min2 rfl rfl)) rfl ?_
  refine Sl.G.ro (Sl.RO.rd (Sl.RO.max2 rfl rfl)) rfl ?_
  refine Sl.G.ro (Sl.RO.rd (Sl.RO.shl rfl rfl (by omega))) rfl ?_
  refine Sl.G.ro (Sl.RO.rd (Sl.RO.sub rfl rfl)) rfl ?_
  refine Sl.G.ro (Sl.RO.rd (Sl.RO.assign rfl)) rfl ?_
  refine Sl.G.nil ?_
  refine Sl.Post.thenN ?_
  refine Sl.Tr.ret ?_
  refine Sl.Post.fin rfl (.tmp rfl .nil) rfl .n ?_ (.inl rfl)
  exact ⟨rfl, rfl⟩

/-- a node: where its domains lie, and what is in each -/
structure NodeV where
  p : Option Addr
  c : Nat
  ds : List Units
abbrev NodeV.cells (r : NodeV) : List Value := [.slice r.p r.ds.length r.c]
theorem NodeV.el : El NodeV.cells 1 := ⟨fun _ => rfl, fun _ => rfl, by decide⟩
def freeAt (n d : Nat) (x : Units) : Free := ⟨n, d, maskFirst x.gpus, x.cpus⟩
def rowFrom (n : Nat) : Nat → List Units → List Free
  | _, [] => []
  | d, x :: r => freeAt n d x :: rowFrom n (d + 1) r
def allFrom : Nat → List (List Units) → List Free
  | _, [] => []
  | n, ds :: r => rowFrom n 0 ds ++ allFrom (n + 1) r
def idxFrom : Nat → List Free → List ((Int × Int) × Int)
  | _, [] => []
  | k, f :: r => ((f.node, f.dom), (k : Int)) :: idxFrom (k + 1) r
theorem rowFrom_snoc (n : Nat) (x : Units) : ∀ (l : List Units) (d : Nat), rowFrom n d (l ++ [x]) = rowFrom n d l ++ [freeAt n (d + l.length) x]
  | [], d => rfl
  | y :: l, d => by simp only [List.cons_append, rowFrom, rowFrom_snoc n x l (d + 1), List.length_cons]; rw [show d + 1 + l.length = d + (l.length + 1) from by omega]
theorem allFrom_snoc (ds : List Units) : ∀ (l : List (List Units)) (n : Nat), allFrom n (l ++ [ds]) = allFrom n l ++ rowFrom (n + l.length) 0 ds
  | [], n => by simp [allFrom]
  | y :: l, n => by simp only [List.cons_append, allFrom, allFrom_snoc ds l (n + 1), List.length_cons, List.append_assoc]; rw [show n + 1 + l.length = n + (l.length + 1) from by omega]
theorem idxFrom_snoc (f : Free) : ∀ (l : List Free) (k : Nat), idxFrom k (l ++ [f]) = idxFrom k l ++ [((f.node, f.dom), ((k + l.length : Nat) : Int))]
  | [], k => rfl
  | y :: l, k => by simp only [List.cons_append, idxFrom, idxFrom_snoc f l (k + 1), List.length_cons]; rw [show k + 1 + l.length = k + (l.length + 1) from by omega]
theorem rowFrom_mem (n : Nat) (f : Free) : ∀ (l : List Units) (d : Nat), f ∈ rowFrom n d l → f.node = n ∧ (d : Int) ≤ f.dom ∧ f.dom < (d + l.length : Nat)
  | [], d, h => by simp [rowFrom] at h
  | y :: l, d, h => by
    simp only [rowFrom, List.mem_cons] at h
    rcases h with rfl | h
    · simp only [freeAt, List.length_cons]; exact ⟨trivial, by omega, by omega⟩
    · have := rowFrom_mem n f l (d + 1) h
      simp only [List.length_cons]; exact ⟨this.1, by omega, by omega⟩
theorem allFrom_mem (f : Free) : ∀ (l : List (List Units)) (n : Nat), f ∈ allFrom n l → (n : Int) ≤ f.node ∧ f.node < (n + l.length : Nat)
  | [], n, h => by simp [allFrom] at h
  | y :: l, n, h => by
    simp only [allFrom, List.mem_append] at h
    rcases h with h | h
    · have := rowFrom_mem n f y 0 h; simp only [List.length_cons]; omega
    · have := allFrom_mem f l (n + 1) h; simp only [List.length_cons]; omega
theorem insm_fresh {K V : Type} [DecidableEq K] (k : K) (v : V) : ∀ (m : List (K × V)), (∀ p ∈ m, p.1 ≠ k) → insm k v m = m ++ [(k, v)]
  | [], _ => rfl
  | (a, u) :: r, h => by
    have h1 : k ≠ a := fun e => h (a, u) (by simp) e.symm
    simp only [insm, if_neg h1, insm_fresh k v r (fun p hp => h p (by simp [hp])), List.cons_append]
theorem idxFrom_key (p : (Int × Int) × Int) : ∀ (l : List Free) (k : Nat), p ∈ idxFrom k l → ∃ f ∈ l, p.1 = (f.node, f.dom)
  | [], k, h => by simp [idxFrom] at h
  | f :: l, k, h => by
    simp only [idxFrom, List.mem_cons] at h
    rcases h with rfl | h
    · exact ⟨f, by simp, rfl⟩
    · obtain ⟨g, hg, h2⟩ := idxFrom_key p l (k + 1) h; exact ⟨g, by simp [hg], h2⟩

def goodD (x : Units) : Bool := decide (0 ≤ x.gpus ∧ x.gpus ≤ 16 ∧ 0 ≤ x.cpus ∧ x.cpus ≤ 1024)
def goodN (ds : List Units) : Bool := decide (1 ≤ ds.length ∧ ds.length ≤ 4) && ds.all goodD
def goodC (l : List (List Units)) : Bool := decide (1 ≤ l.length ∧ l.length ≤ 16) && l.all goodN

/-- A cluster's memory, in the frame. -/
structure ClF (F : Frm) (p : Option Addr) (c : Nat) (l : List NodeV) : Prop where
  row : F.has (sA 92 1 NodeV.cells p c l)
  nds : ∀ r ∈ l, F.has (sA 96 2 Units.cells r.p r.c r.ds)
abbrev dsOf (l : List NodeV) : List (List Units) := l.map (·.ds)
/-- A topology's memory. -/
abbrev TopoH (b : Nat) (p : Option Addr) (c m : Nat) (nodes : Nat) (all : List Free) : List Assn := [pt b (cl [.slice p all.length c, .map (some m), .int .i64 nodes] 151), sA 157 4 Free.cells p c all, mA ekSpot ekI m (idxFrom 0 all)]

theorem topo_New (F : Frm) (p : Option Addr) (c : Nat) (l : List NodeV) (hv : ClF F p c l) : FnOk Tryz.prog 37 [.agg #[.slice p l.length c]] [] F
    (fun r H => if goodC (dsOf l) = true then ∃ b q e m, r = .tuple #[.pointer (some ⟨b, 0, none⟩), .int .i64 0] ∧ H = TopoH b q e m l.length (allFrom 0 (dsOf l))
      else r = .tuple #[.pointer none, .int .i64 1] ∧ H = []) := by
  have hrow := hv.row
  refine Sl.FnOk.of (κ := [(0, _)]) Go.Proofs.Tryz.func37 rfl rfl Go.Proofs.Tryz.ntmps37 rfl rfl ?_
  refine Sl.Tr.seq ?_
  refine Sl.Tr.region ?_
  refine Sl.G.box rfl rfl rfl (fun b0 => ?_)
  refine Sl.G.ro (Sl.RO.rd (Sl.RO.assign rfl)) rfl ?_
  refine Sl.G.ro (Sl.RO.rd (Sl.RO.assign rfl)) rfl ?_
  refine Sl.G.nil ?_
  refine Sl.Post.thenN ?_
  refine Sl.Tr.seq ?_
  refine Sl.Tr.seq ?_
  refine Sl.Tr.region ?_
  refine Sl.G.ro (Sl.RO.rd (Sl.RO.fieldAddr rfl fo_62_0)) rfl ?_
  refine Sl.G.ro (Sl.RD.load1 rfl .h ly_60 rfl) rfl ?_
  refine Sl.G.ro (Sl.RO.rd (Sl.RO.lenSl rfl sl_60)) rfl ?_
  refine Sl.G.cmp (Sl.RO.lss rfl rfl) rfl (fun hc1 => ?_) (fun hc1 => ?_)
  refine Sl.G.ro (Sl.RO.rd (Sl.RO.move rfl)) rfl ?_
  refine Sl.G.pass rfl rfl ?_
  refine Sl.G.pass rfl rfl ?_
  refine Sl.G.pass rfl rfl ?_
  refine Sl.G.pass rfl rfl ?_
  refine Sl.G.ro (Sl.RO.rd (Sl.RO.pickT rfl rfl)) rfl ?_
  refine Sl.G.nil ?_
  refine Sl.Post.thenN ?_
  refine Sl.Tr.condT rfl ?_
  refine Sl.Tr.seq ?_
  refine Sl.Tr.region ?_
  refine Sl.G.ro (Sl.RO.rd (Sl.RO.assign rfl)) rfl ?_
  refine Sl.G.ro (Sl.RO.rd (Sl.RO.assign rfl)) rfl ?_
  refine Sl.G.nil ?_
  refine Sl.Post.thenN ?_
  refine Sl.Tr.ret ?_
  refine Sl.Post.thenR ?_
  rotate_left
  refine Sl.G.ro (Sl.RO.rd (Sl.RO.move rfl)) rfl ?_
  refine Sl.G.un rfl ?_
  refine Sl.G.ro (Sl.RO.rd (Sl.RO.fieldAddr rfl fo_62_0)) rfl ?_
  refine Sl.G.un rfl ?_
  refine Sl.G.ro (Sl.RD.load1 rfl .h ly_60 rfl) rfl ?_
  refine Sl.G.un rfl ?_
  refine Sl.G.ro (Sl.RO.rd (Sl.RO.lenSl rfl sl_60)) rfl ?_
  refine Sl.G.un rfl ?_
  refine Sl.G.cmp (Sl.RO.gtr rfl rfl) rfl (fun hc2 => ?_) (fun hc2 => ?_)
  refine Sl.G.ro (Sl.RO.rd (Sl.RO.pickF rfl rfl)) rfl ?_
  refine Sl.G.nil ?_
  refine Sl.Post.thenN ?_
  refine Sl.Tr.condT rfl ?_
  refine Sl.Tr.seq ?_
  refine Sl.Tr.region ?_
  refine Sl.G.ro (Sl.RO.rd (Sl.RO.assign rfl)) rfl ?_
  refine Sl.G.ro (Sl.RO.rd (Sl.RO.assign rfl)) rfl ?_
  refine Sl.G.nil ?_
  refine Sl.Post.thenN ?_
  refine Sl.Tr.ret ?_
  refine Sl.Post.thenR ?_
  rotate_left
  refine Sl.G.ro (Sl.RO.rd (Sl.RO.pickF rfl rfl)) rfl ?_
  refine Sl.G.nil ?_
  refine Sl.Post.thenN ?_
  refine Sl.Tr.condF rfl ?_
  refine Sl.Tr.skip ?_
  refine Sl.Post.thenN ?_
  refine Sl.Tr.seq ?_
  refine Sl.Tr.region ?_
  refine Sl.G.makeMap kx_149 vx_149 rfl (fun b3 => ?_)
  refine Sl.G.ro (Sl.RO.rd (Sl.RO.fieldAddr rfl fo_62_0)) rfl ?_
  refine Sl.G.ro (Sl.RD.load1 rfl (.t .h) ly_60 rfl) rfl ?_
  refine Sl.G.ro (Sl.RO.rd (Sl.RO.lenSl rfl sl_60)) rfl ?_
  refine Sl.G.ro (Sl.RO.rd (Sl.RO.build pl_151 zv_151 rfl rfl)) rfl ?_
  refine Sl.G.box rfl rfl rfl (fun b4 => ?_)
  refine Sl.G.ro (Sl.RO.rd (Sl.RO.assign rfl)) rfl ?_
  refine Sl.G.nil ?_
  refine Sl.Post.thenN ?_
  refine Sl.Tr.seq ?_
  refine Sl.Tr.seq ?_
  refine Sl.Tr.region ?_
  refine Sl.G.ro (Sl.RO.rd (Sl.RO.fieldAddr rfl fo_62_0)) rfl ?_
  refine Sl.G.ro (Sl.RD.load1 rfl (.t (.t .h)) ly_60 rfl) rfl ?_
  refine Sl.G.ro (Sl.RO.rd (Sl.RO.lenSl rfl sl_60)) rfl ?_
  refine Sl.G.ro (Sl.RO.rd (Sl.RO.move rfl)) rfl ?_
  refine Sl.G.nil ?_
  refine Sl.Post.thenN ?_
  refine Sl.Tr.block ?_
  rotate_left
  · refine Sl.Post.fin rfl (.tmp rfl (.tmp rfl .nil)) rfl .n ?_ (.inl rfl)
    rw [if_neg (by simp [goodC]; omega)]; exact ⟨rfl, rfl⟩
  · refine Sl.Post.fin rfl (.tmp rfl (.tmp rfl .nil)) rfl .n ?_ (.inl rfl)
    rw [if_neg (by simp [goodC]; omega)]; exact ⟨rfl, rfl⟩
  · refine Sl.Tr.nilS 157 4 Free.cells ?_
    refine Sl.Tr.loop (α := Nat × List Free × Option Addr × Nat) (fun g => [(29, .int .i64 (g.1 : Nat))]) [(28, _), (27, _), (26, _), (4, _), (25, _), (24, _), (23, _), (22, _), (21, _), (20, _), (19, _), (18, _), (17, _), (16, _), (15, _), (14, _), (13, _), (12, _), (11, _), (10, _), (1, _), (0, _)] (fun g => [pt b4 (cl [.slice g.2.2.1 g.2.1.length g.2.2.2, .map (some b3), .int .i64 l.length] 151), mA ekSpot ekI b3 (idxFrom 0 g.2.1), sA 157 4 Free.cells g.2.2.1 g.2.2.2 g.2.1]) [_] (fun g => g.1 ≤ l.length ∧ g.2.1 = allFrom 0 (dsOf (l.take g.1)) ∧ (∀ r ∈ l.take g.1, goodN r.ds = true) ∧ g.2.1.length ≤ 4 * g.1) (fun g => l.length - g.1) ((0, [], none, 0)) ?_ ⟨rfl, trivial⟩ ⟨rfl, rfl, rfl, rfl, rfl, rfl, rfl, rfl, rfl, rfl, rfl, rfl, rfl, rfl, rfl, rfl, rfl, rfl, rfl, rfl, rfl, rfl, trivial⟩ (.p (.t .h) (.p (.t .h) (.p .h (.p .h .o)))) ?_
    · exact ⟨Nat.zero_le _, rfl, by simp, by simp⟩
    rintro ⟨i, fs, q, e⟩ ⟨hi, hf, hg, hfl⟩
    dsimp only [List.cons_append, List.nil_append]
    (try dsimp only at *)
    refine Sl.Tr.seq ?_
    refine Sl.Tr.region ?_
    refine Sl.G.cmp (Sl.RO.lss rfl rfl) rfl (fun hc5 => ?_) (fun hc5 => ?_)
    refine Sl.G.nil ?_
    refine Sl.Post.thenN ?_
    refine Sl.Tr.seq ?_
    refine Sl.Tr.condT rfl ?_
    refine Sl.Tr.skip ?_
    refine Sl.Post.thenN ?_
    refine Sl.Tr.seq ?_
    refine Sl.Tr.block ?_
    refine Sl.Tr.seq ?_
    refine Sl.Tr.region ?_
    refine Sl.G.ro (Sl.RO.rd (Sl.RO.move rfl)) rfl ?_
    rotate_left
    refine Sl.G.nil ?_
    refine Sl.Post.thenN ?_
    refine Sl.Tr.seq ?_
    refine Sl.Tr.condF rfl ?_
    refine Sl.Tr.exit ?_
    refine Sl.Post.thenE ?_
    refine Sl.Post.thenE ?_
    refine Sl.Post.blockE ?_
    refine Sl.Post.thenN ?_
    refine Sl.Tr.seq ?_
    refine Sl.Tr.region ?_
    refine Sl.G.ro (Sl.RO.rd (Sl.RO.move rfl)) rfl ?_
    refine Sl.G.ro (Sl.RO.rd (Sl.RO.assign rfl)) rfl ?_
    refine Sl.G.ro (Sl.RO.rd (Sl.RO.assign rfl)) rfl ?_
    refine Sl.G.nil ?_
    refine Sl.Post.thenN ?_
    refine Sl.Tr.ret ?_
    rotate_left
    · obtain ⟨r, hr⟩ := get_lt (l := l) (i := i) (by omega)
      have hrm := List.mem_of_getElem? hr
      have hrs := hv.nds r hrm
      refine Sl.G.ro (Sl.RO.rd (Sl.RO.atEl rfl rfl sl_60 hrow (by assumption))) rfl ?_
      refine Sl.G.ro (Sl.RO.rd (Sl.RO.loadEp rfl hrow (by assumption) ly_92 rfl)) rfl ?_
      refine Sl.G.alloc zv_92 rfl (fun b6 => ?_)
      refine Sl.G.ro (Sl.RO.rd (Sl.RO.assign rfl)) rfl ?_
      refine Sl.G.store rfl rfl rfl rfl ly_92 rfl .h rfl ?_
      refine Sl.G.nil ?_
      refine Sl.Post.thenN ?_
      refine Sl.Tr.seq ?_
      refine Sl.Tr.seq ?_
      refine Sl.Tr.region ?_
      refine Sl.G.ro (Sl.RO.rd (Sl.RO.fieldAddr rfl fo_92_0)) rfl ?_
      refine Sl.G.ro (Sl.RD.load1 rfl .h ly_90 rfl) rfl ?_
      refine Sl.G.ro (Sl.RO.rd (Sl.RO.lenSl rfl sl_90)) rfl ?_
      refine Sl.G.cmp (Sl.RO.lss rfl rfl) rfl (fun hc7 => ?_) (fun hc7 => ?_)
      refine Sl.G.ro (Sl.RO.rd (Sl.RO.move rfl)) rfl ?_
      refine Sl.G.pass rfl rfl ?_
      refine Sl.G.pass rfl rfl ?_
      refine Sl.G.pass rfl rfl ?_
      refine Sl.G.pass rfl rfl ?_
      refine Sl.G.ro (Sl.RO.rd (Sl.RO.pickT rfl rfl)) rfl ?_
      refine Sl.G.nil ?_
      refine Sl.Post.thenN ?_
      refine Sl.Tr.condT rfl ?_
      refine Sl.Tr.seq ?_
      refine Sl.Tr.region ?_
      refine Sl.G.ro (Sl.RO.rd (Sl.RO.assign rfl)) rfl ?_
      refine Sl.G.ro (Sl.RO.rd (Sl.RO.assign rfl)) rfl ?_
      refine Sl.G.nil ?_
      refine Sl.Post.thenN ?_
      refine Sl.Tr.ret ?_
      refine Sl.Post.thenR ?_
      refine Sl.Post.blockR ?_
      refine Sl.Post.thenR ?_
      refine Sl.Post.thenR ?_
      refine Sl.Post.blockR ?_
      refine Sl.Post.thenR ?_
      rotate_left
      refine Sl.G.ro (Sl.RO.rd (Sl.RO.move rfl)) rfl ?_
      refine Sl.G.un rfl ?_
      refine Sl.G.ro (Sl.RO.rd (Sl.RO.fieldAddr rfl fo_92_0)) rfl ?_
      refine Sl.G.un rfl ?_
      refine Sl.G.ro (Sl.RD.load1 rfl .h ly_90 rfl) rfl ?_
      refine Sl.G.un rfl ?_
      refine Sl.G.ro (Sl.RO.rd (Sl.RO.lenSl rfl sl_90)) rfl ?_
      refine Sl.G.un rfl ?_
      refine Sl.G.cmp (Sl.RO.gtr rfl rfl) rfl (fun hc8 => ?_) (fun hc8 => ?_)
      refine Sl.G.ro (Sl.RO.rd (Sl.RO.pickF rfl rfl)) rfl ?_
      refine Sl.G.nil ?_
      refine Sl.Post.thenN ?_
      refine Sl.Tr.condT rfl ?_
      refine Sl.Tr.seq ?_
      refine Sl.Tr.region ?_
      refine Sl.G.ro (Sl.RO.rd (Sl.RO.assign rfl)) rfl ?_
      refine Sl.G.ro (Sl.RO.rd (Sl.RO.assign rfl)) rfl ?_
      refine Sl.G.nil ?_
      refine Sl.Post.thenN ?_
      refine Sl.Tr.ret ?_
      refine Sl.Post.thenR ?_
      refine Sl.Post.blockR ?_
      refine Sl.Post.thenR ?_
      refine Sl.Post.thenR ?_
      refine Sl.Post.blockR ?_
      refine Sl.Post.thenR ?_
      rotate_left
      refine Sl.G.ro (Sl.RO.rd (Sl.RO.pickF rfl rfl)) rfl ?_
      refine Sl.G.nil ?_
      refine Sl.Post.thenN ?_
      refine Sl.Tr.condF rfl ?_
      refine Sl.Tr.skip ?_
      refine Sl.Post.thenN ?_
      refine Sl.Tr.seq ?_
      refine Sl.Tr.region ?_
      refine Sl.G.ro (Sl.RO.rd (Sl.RO.fieldAddr rfl fo_92_0)) rfl ?_
      refine Sl.G.ro (Sl.RD.load1 rfl .h ly_90 rfl) rfl ?_
      refine Sl.G.ro (Sl.RO.rd (Sl.RO.lenSl rfl sl_90)) rfl ?_
      refine Sl.G.ro (Sl.RO.rd (Sl.RO.move rfl)) rfl ?_
      refine Sl.G.nil ?_
      refine Sl.Post.thenN ?_
      refine Sl.Tr.block ?_
      rotate_left
      · refine Sl.Post.fin rfl (.tmp rfl (.tmp rfl .nil)) rfl .n ?_ (.inl rfl)
        rw [if_neg]
        · exact ⟨rfl, rfl⟩
        · intro h
          simp only [goodC, Bool.and_eq_true, List.all_eq_true] at h
          have := h.2 r.ds (List.mem_map.2 ⟨r, hrm, rfl⟩)
          simp [goodN] at this; omega
      · refine Sl.Post.fin rfl (.tmp rfl (.tmp rfl .nil)) rfl .n ?_ (.inl rfl)
        rw [if_neg]
        · exact ⟨rfl, rfl⟩
        · intro h
          simp only [goodC, Bool.and_eq_true, List.all_eq_true] at h
          have := h.2 r.ds (List.mem_map.2 ⟨r, hrm, rfl⟩)
          simp [goodN] at this; omega
      · refine Sl.Tr.loop (α := Nat × List Free × Option Addr × Nat) (fun g => [(47, .int .i64 (g.1 : Nat))]) [(46, _), (45, _), (44, _), (43, _), (42, _), (41, _), (40, _), (39, _), (38, _), (37, _), (36, _), (35, _), (34, _), (5, _), (6, _), (33, _), (32, _), (31, _), (30, _), (29, _), (28, _), (27, _), (26, _), (4, _), (25, _), (24, _), (23, _), (22, _), (21, _), (20, _), (19, _), (18, _), (17, _), (16, _), (15, _), (14, _), (13, _), (12, _), (11, _), (10, _), (1, _), (0, _)] (fun g => [pt b4 (cl [.slice g.2.2.1 g.2.1.length g.2.2.2, .map (some b3), .int .i64 l.length] 151), mA ekSpot ekI b3 (idxFrom 0 g.2.1), sA 157 4 Free.cells g.2.2.1 g.2.2.2 g.2.1]) [_, _] (fun g => g.1 ≤ r.ds.length ∧ g.2.1 = allFrom 0 (dsOf (l.take i)) ++ rowFrom i 0 (r.ds.take g.1) ∧ (∀ u ∈ r.ds.take g.1, goodD u = true) ∧ g.2.1.length ≤ 4 * i + g.1) (fun g => r.ds.length - g.1) ((0, fs, q, e)) ?_ ⟨rfl, trivial⟩ ⟨rfl, rfl, rfl, rfl, rfl, rfl, rfl, rfl, rfl, rfl, rfl, rfl, rfl, rfl, rfl, rfl, rfl, rfl, rfl, rfl, rfl, rfl, rfl, rfl, rfl, rfl, rfl, rfl, rfl, rfl, rfl, rfl, rfl, rfl, rfl, rfl, rfl, rfl, rfl, rfl, rfl, rfl, trivial⟩ (.p (.t .h) (.p (.t .h) (.p (.t .h) (.p .h (.p .h .o))))) ?_
        · exact ⟨Nat.zero_le _, by simp [hf, rowFrom], by simp, by simpa using hfl⟩
        rintro ⟨j, gs, q2, e2⟩ ⟨hj, hgs, hgd, hgl⟩
        dsimp only [List.cons_append, List.nil_append]
        (try dsimp only at *)
        refine Sl.Tr.seq ?_
        refine Sl.Tr.region ?_
        refine Sl.G.cmp (Sl.RO.lss rfl rfl) rfl (fun hc9 => ?_) (fun hc9 => ?_)
        refine Sl.G.nil ?_
        refine Sl.Post.thenN ?_
        refine Sl.Tr.seq ?_
        refine Sl.Tr.condT rfl ?_
        refine Sl.Tr.skip ?_
        refine Sl.Post.thenN ?_
        refine Sl.Tr.seq ?_
        refine Sl.Tr.block ?_
        refine Sl.Tr.seq ?_
        refine Sl.Tr.region ?_
        refine Sl.G.ro (Sl.RO.rd (Sl.RO.move rfl)) rfl ?_
        rotate_left
        refine Sl.G.nil ?_
        refine Sl.Post.thenN ?_
        refine Sl.Tr.seq ?_
        refine Sl.Tr.condF rfl ?_
        refine Sl.Tr.exit ?_
        refine Sl.Post.thenE ?_
        refine Sl.Post.thenE ?_
        refine Sl.Post.blockE ?_
        refine Sl.Post.blockN ?_
        refine Sl.Post.thenN ?_
        refine Sl.Tr.region ?_
        refine Sl.G.ro (Sl.RO.rd (Sl.RO.addI rfl rfl (by omega))) rfl ?_
        refine Sl.G.ro (Sl.RO.rd (Sl.RO.move rfl)) rfl ?_
        refine Sl.G.nil ?_
        rotate_left
        · obtain ⟨x, hx⟩ := get_lt (l := r.ds) (i := j) (by omega)
          have hxm := List.mem_of_getElem? hx
          have hbad : goodD x = false → ¬ goodC (dsOf l) = true := fun h0 h => by
            simp only [goodC, Bool.and_eq_true, List.all_eq_true] at h
            have h1 := h.2 r.ds (List.mem_map.2 ⟨r, hrm, rfl⟩)
            simp only [goodN, Bool.and_eq_true, List.all_eq_true] at h1
            rw [h1.2 x hxm] at h0; cases h0
          refine Sl.G.ro (Sl.RO.rd (Sl.RO.atEl rfl rfl sl_90 hrs (by assumption))) rfl ?_
          refine Sl.G.ro (Sl.RO.rd (Sl.RO.loadEp rfl hrs (by assumption) ly_96 rfl)) rfl ?_
          refine Sl.G.alloc zv_96 rfl (fun b10 => ?_)
          refine Sl.G.ro (Sl.RO.rd (Sl.RO.assign rfl)) rfl ?_
          refine Sl.G.store rfl rfl rfl rfl ly_96 rfl .h rfl ?_
          refine Sl.G.nil ?_
          refine Sl.Post.thenN ?_
          refine Sl.Tr.seq ?_
          refine Sl.Tr.seq ?_
          refine Sl.Tr.region ?_
          refine Sl.G.ro (Sl.RO.rd (Sl.RO.fieldAddr rfl fo_96_0)) rfl ?_
          refine Sl.G.ro (Sl.RD.load1 rfl .h ly_3 rfl) rfl ?_
          refine Sl.G.cmp (Sl.RO.lss rfl rfl) rfl (fun hc11 => ?_) (fun hc11 => ?_)
          refine Sl.G.ro (Sl.RO.rd (Sl.RO.move rfl)) rfl ?_
          refine Sl.G.pass rfl rfl ?_
          refine Sl.G.pass rfl rfl ?_
          refine Sl.G.pass rfl rfl ?_
          refine Sl.G.ro (Sl.RO.rd (Sl.RO.pickT rfl rfl)) rfl ?_
          refine Sl.G.ro (Sl.RO.rd (Sl.RO.move rfl)) rfl ?_
          refine Sl.G.pass rfl rfl ?_
          refine Sl.G.pass rfl rfl ?_
          refine Sl.G.pass rfl rfl ?_
          refine Sl.G.ro (Sl.RO.rd (Sl.RO.pickT rfl rfl)) rfl ?_
          refine Sl.G.ro (Sl.RO.rd (Sl.RO.move rfl)) rfl ?_
          refine Sl.G.pass rfl rfl ?_
          refine Sl.G.pass rfl rfl ?_
          refine Sl.G.pass rfl rfl ?_
          refine Sl.G.ro (Sl.RO.rd (Sl.RO.pickT rfl rfl)) rfl ?_
          refine Sl.G.nil ?_
          refine Sl.Post.thenN ?_
          refine Sl.Tr.condT rfl ?_
          refine Sl.Tr.seq ?_
          refine Sl.Tr.region ?_
          refine Sl.G.ro (Sl.RO.rd (Sl.RO.assign rfl)) rfl ?_
          refine Sl.G.ro (Sl.RO.rd (Sl.RO.assign rfl)) rfl ?_
          refine Sl.G.nil ?_
          refine Sl.Post.thenN ?_
          refine Sl.Tr.ret ?_
          refine Sl.Post.thenR ?_
          refine Sl.Post.blockR ?_
          refine Sl.Post.thenR ?_
          refine Sl.Post.thenR ?_
          refine Sl.Post.blockR ?_
          refine Sl.Post.blockR ?_
          refine Sl.Post.thenR ?_
          refine Sl.Post.thenR ?_
          refine Sl.Post.blockR ?_
          refine Sl.Post.thenR ?_
          rotate_left
          refine Sl.G.ro (Sl.RO.rd (Sl.RO.move rfl)) rfl ?_
          refine Sl.G.un rfl ?_
          refine Sl.G.ro (Sl.RO.rd (Sl.RO.fieldAddr rfl fo_96_0)) rfl ?_
          refine Sl.G.un rfl ?_
          refine Sl.G.ro (Sl.RD.load1 rfl .h ly_3 rfl) rfl ?_
          refine Sl.G.un rfl ?_
          refine Sl.G.cmp (Sl.RO.gtr rfl rfl) rfl (fun hc12 => ?_) (fun hc12 => ?_)
          refine Sl.G.ro (Sl.RO.rd (Sl.RO.pickF rfl rfl)) rfl ?_
          refine Sl.G.ro (Sl.RO.rd (Sl.RO.move rfl)) rfl ?_
          refine Sl.G.pass rfl rfl ?_
          refine Sl.G.pass rfl rfl ?_
          refine Sl.G.pass rfl rfl ?_
          refine Sl.G.ro (Sl.RO.rd (Sl.RO.pickT rfl rfl)) rfl ?_
          refine Sl.G.ro (Sl.RO.rd (Sl.RO.move rfl)) rfl ?_
          refine Sl.G.pass rfl rfl ?_
          refine Sl.G.pass rfl rfl ?_
          refine Sl.G.pass rfl rfl ?_
          refine Sl.G.ro (Sl.RO.rd (Sl.RO.pickT rfl rfl)) rfl ?_
          refine Sl.G.nil ?_
          refine Sl.Post.thenN ?_
          refine Sl.Tr.condT rfl ?_
          refine Sl.Tr.seq ?_
          refine Sl.Tr.region ?_
          refine Sl.G.ro (Sl.RO.rd (Sl.RO.assign rfl)) rfl ?_
          refine Sl.G.ro (Sl.RO.rd (Sl.RO.assign rfl)) rfl ?_
          refine Sl.G.nil ?_
          refine Sl.Post.thenN ?_
          refine Sl.Tr.ret ?_
          refine Sl.Post.thenR ?_
          refine Sl.Post.blockR ?_
          refine Sl.Post.thenR ?_
          refine Sl.Post.thenR ?_
          refine Sl.Post.blockR ?_
          refine Sl.Post.blockR ?_
          refine Sl.Post.thenR ?_
          refine Sl.Post.thenR ?_
          refine Sl.Post.blockR ?_
          refine Sl.Post.thenR ?_
          rotate_left
          refine Sl.G.ro (Sl.RO.rd (Sl.RO.pickF rfl rfl)) rfl ?_
          refine Sl.G.ro (Sl.RO.rd (Sl.RO.move rfl)) rfl ?_
          refine Sl.G.un rfl ?_
          refine Sl.G.ro (Sl.RO.rd (Sl.RO.fieldAddr rfl fo_96_1)) rfl ?_
          refine Sl.G.un rfl ?_
          refine Sl.G.ro (Sl.RD.load1 rfl .h ly_3 rfl) rfl ?_
          refine Sl.G.un rfl ?_
          refine Sl.G.cmp (Sl.RO.lss rfl rfl) rfl (fun hc13 => ?_) (fun hc13 => ?_)
          refine Sl.G.ro (Sl.RO.rd (Sl.RO.pickF rfl rfl)) rfl ?_
          refine Sl.G.ro (Sl.RO.rd (Sl.RO.move rfl)) rfl ?_
          refine Sl.G.pass rfl rfl ?_
          refine Sl.G.pass rfl rfl ?_
          refine Sl.G.pass rfl rfl ?_
          refine Sl.G.ro (Sl.RO.rd (Sl.RO.pickT rfl rfl)) rfl ?_
          refine Sl.G.nil ?_
          refine Sl.Post.thenN ?_
          refine Sl.Tr.condT rfl ?_
          refine Sl.Tr.seq ?_
          refine Sl.Tr.region ?_
          refine Sl.G.ro (Sl.RO.rd (Sl.RO.assign rfl)) rfl ?_
          refine Sl.G.ro (Sl.RO.rd (Sl.RO.assign rfl)) rfl ?_
          refine Sl.G.nil ?_
          refine Sl.Post.thenN ?_
          refine Sl.Tr.ret ?_
          refine Sl.Post.thenR ?_
          refine Sl.Post.blockR ?_
          refine Sl.Post.thenR ?_
          refine Sl.Post.thenR ?_
          refine Sl.Post.blockR ?_
          refine Sl.Post.blockR ?_
          refine Sl.Post.thenR ?_
          refine Sl.Post.thenR ?_
          refine Sl.Post.blockR ?_
          refine Sl.Post.thenR ?_
          rotate_left
          refine Sl.G.ro (Sl.RO.rd (Sl.RO.pickF rfl rfl)) rfl ?_
          refine Sl.G.ro (Sl.RO.rd (Sl.RO.move rfl)) rfl ?_
          refine Sl.G.un rfl ?_
          refine Sl.G.ro (Sl.RO.rd (Sl.RO.fieldAddr rfl fo_96_1)) rfl ?_
          refine Sl.G.un rfl ?_
          refine Sl.G.ro (Sl.RD.load1 rfl .h ly_3 rfl) rfl ?_
          refine Sl.G.un rfl ?_
          refine Sl.G.cmp (Sl.RO.gtr rfl rfl) rfl (fun hc14 => ?_) (fun hc14 => ?_)
          refine Sl.G.ro (Sl.RO.rd (Sl.RO.pickF rfl rfl)) rfl ?_
          refine Sl.G.nil ?_
          refine Sl.Post.thenN ?_
          refine Sl.Tr.condT rfl ?_
          refine Sl.Tr.seq ?_
          refine Sl.Tr.region ?_
          refine Sl.G.ro (Sl.RO.rd (Sl.RO.assign rfl)) rfl ?_
          refine Sl.G.ro (Sl.RO.rd (Sl.RO.assign rfl)) rfl ?_
          refine Sl.G.nil ?_
          refine Sl.Post.thenN ?_
          refine Sl.Tr.ret ?_
          refine Sl.Post.thenR ?_
          refine Sl.Post.blockR ?_
          refine Sl.Post.thenR ?_
          refine Sl.Post.thenR ?_
          refine Sl.Post.blockR ?_
          refine Sl.Post.blockR ?_
          refine Sl.Post.thenR ?_
          refine Sl.Post.thenR ?_
          refine Sl.Post.blockR ?_
          refine Sl.Post.thenR ?_
          rotate_left
          refine Sl.G.ro (Sl.RO.rd (Sl.RO.pickF rfl rfl)) rfl ?_
          refine Sl.G.nil ?_
          refine Sl.Post.thenN ?_
          refine Sl.Tr.condF rfl ?_
          refine Sl.Tr.skip ?_
          refine Sl.Post.thenN ?_
          refine Sl.Tr.seq ?_
          refine Sl.Tr.region ?_
          refine Sl.G.ro (Sl.RO.rd (Sl.RO.move rfl)) rfl ?_
          refine Sl.G.ro (Sl.RO.rd (Sl.RO.move rfl)) rfl ?_
          refine Sl.G.ro (Sl.RO.rd (Sl.RO.build pl_153 zv_153 rfl rfl)) rfl ?_
          refine Sl.G.alloc zv_153 rfl (fun b15 => ?_)
          refine Sl.G.store rfl rfl rfl rfl ly_153 rfl .h rfl ?_
          refine Sl.G.nil ?_
          refine Sl.Post.thenN ?_
          refine Sl.Tr.seq ?_
          rotate_left
          · refine Sl.Post.fin rfl (.tmp rfl (.tmp rfl .nil)) rfl .n ?_ (.inl rfl)
            rw [if_neg (hbad (by simp only [goodD, decide_eq_false_iff_not]; omega))]; exact ⟨rfl, rfl⟩
          · refine Sl.Post.fin rfl (.tmp rfl (.tmp rfl .nil)) rfl .n ?_ (.inl rfl)
            rw [if_neg (hbad (by simp only [goodD, decide_eq_false_iff_not]; omega))]; exact ⟨rfl, rfl⟩
          · refine Sl.Post.fin rfl (.tmp rfl (.tmp rfl .nil)) rfl .n ?_ (.inl rfl)
            rw [if_neg (hbad (by simp only [goodD, decide_eq_false_iff_not]; omega))]; exact ⟨rfl, rfl⟩
          · refine Sl.Post.fin rfl (.tmp rfl (.tmp rfl .nil)) rfl .n ?_ (.inl rfl)
            rw [if_neg (hbad (by simp only [goodD, decide_eq_false_iff_not]; omega))]; exact ⟨rfl, rfl⟩
          · have hgx : goodD x = true := by simp only [goodD, decide_eq_true_eq]; omega
            refine Sl.Tr.freeze .h (fun G16 hle16 hfz16 back16 thaw16 => ?_)
            have hrow_16 := Sl.Frm.has_mono hrow hle16
            have hrs_16 := Sl.Frm.has_mono hrs hle16
            refine Sl.Tr.freeze (.t .h) (fun G17 hle17 hfz17 back17 thaw17 => ?_)
            have hfz16_17 := Sl.Frm.has_mono hfz16 hle17
            have hrow_16_17 := Sl.Frm.has_mono hrow_16 hle17
            have hrs_16_17 := Sl.Frm.has_mono hrs_16 hle17
            refine Sl.Tr.draw (fuel := 11) (listed := [false, false, false, false, false, false, false, false, false, false, false]) mixed rfl rfl ?_
            refine Sl.GD.take (i := 0) rfl rfl rfl (Sl.RO.move rfl) rfl ?_
            refine Sl.GD.take (i := 1) rfl rfl rfl (Sl.RO.nilCheck rfl) rfl ?_
            refine Sl.GD.take (i := 2) rfl rfl rfl (Sl.RO.fieldAddr rfl fo_151_1) rfl ?_
            refine Sl.GD.take (i := 3) rfl rfl rfl (Sl.RO.load1 rfl hfz17 ly_149 rfl) rfl ?_
            refine Sl.GD.take (i := 4) rfl rfl rfl (Sl.RO.load rfl hfz16_17 ly_153 rfl) rfl ?_
            refine Sl.GD.take (i := 5) rfl rfl rfl (Sl.RO.move rfl) rfl ?_
            refine Sl.GD.take (i := 6) rfl rfl rfl (Sl.RO.nilCheck rfl) rfl ?_
            refine Sl.GD.take (i := 7) rfl rfl rfl (Sl.RO.fieldAddr rfl fo_151_0) rfl ?_
            refine Sl.GD.take (i := 8) rfl rfl rfl (Sl.RO.load1 rfl hfz17 ly_129 rfl) rfl ?_
            refine Sl.GD.take (i := 9) rfl rfl rfl (Sl.RO.lenSl rfl sl_129) rfl ?_
            refine Sl.GD.mapUpdate (i := 10) (ek := ekSpot) (ev' := ekI) (((i : Nat), (j : Nat))) (gs.length) (.inl rfl) rfl rfl rfl rfl rfl rfl mp_149 Go.Proofs.YtcaojfapibkplaaGreatDoor.ekSpot_ok (.t .h) ?_
            refine Sl.GD.done rfl (back17 _ _ _ _ _ _ (back16 _ _ _ _ _ _ ?_))
            refine Sl.Post.thenN ?_
            refine Sl.Tr.freeze .h (fun G18 hle18 hfz18 back18 thaw18 => ?_)
            have hrow_18 := Sl.Frm.has_mono hrow hle18
            have hrs_18 := Sl.Frm.has_mono hrs hle18
            refine Sl.Tr.freeze .h (fun G19 hle19 hfz19 back19 thaw19 => ?_)
            have hfz18_19 := Sl.Frm.has_mono hfz18 hle19
            have hrow_18_19 := Sl.Frm.has_mono hrow_18 hle19
            have hrs_18_19 := Sl.Frm.has_mono hrs_18 hle19
            refine Sl.Tr.freeze (.t .h) (fun G20 hle20 hfz20 back20 thaw20 => ?_)
            have hfz19_20 := Sl.Frm.has_mono hfz19 hle20
            have hfz18_19_20 := Sl.Frm.has_mono hfz18_19 hle20
            have hrow_18_19_20 := Sl.Frm.has_mono hrow_18_19 hle20
            have hrs_18_19_20 := Sl.Frm.has_mono hrs_18_19 hle20
            refine Sl.Tr.draw (fuel := 17) (listed := [false, false, false, false, false, false, false, false, false, false, false, false, false, false, false, false, false]) mixed rfl rfl ?_
            refine Sl.GD.take (i := 0) rfl rfl rfl (Sl.RO.move rfl) rfl ?_
            refine Sl.GD.take (i := 1) rfl rfl rfl (Sl.RO.move rfl) rfl ?_
            refine Sl.GD.take (i := 2) rfl rfl rfl (Sl.RO.nilCheck rfl) rfl ?_
            refine Sl.GD.take (i := 3) rfl rfl rfl (Sl.RO.fieldAddr rfl fo_151_0) rfl ?_
            refine Sl.GD.take (i := 4) rfl rfl rfl (Sl.RO.load1 rfl hfz19_20 ly_129 rfl) rfl ?_
            refine Sl.GD.take (i := 5) rfl rfl rfl (Sl.RO.load rfl hfz18_19_20 ly_153 rfl) rfl ?_
            refine Sl.GD.take (i := 6) rfl rfl rfl (Sl.RO.fieldAddr rfl fo_96_0) rfl ?_
            refine Sl.GD.take (i := 7) rfl rfl rfl (Sl.RO.load1 rfl hfz20 ly_3 rfl) rfl ?_
            refine Sl.GD.take (i := 9) rfl rfl rfl (Sl.RO.fieldAddr rfl fo_96_1) rfl ?_
            refine Sl.GD.take (i := 10) rfl rfl rfl (Sl.RO.load1 rfl hfz20 ly_3 rfl) rfl ?_
            refine Sl.GD.call (i := 8) rfl rfl rfl rfl rfl .n (.c .n) .n (fun G' hle hhas => mask_First _ x.gpus) rfl (fun v K hR => ?_)
            obtain ⟨rfl, rfl⟩ := hR
            refine Sl.GD.app .n ?_
            refine Sl.GD.take (i := 11) rfl rfl rfl (Sl.RO.build pl_157 zv_157 rfl rfl) rfl ?_
            refine Sl.GD.acts (i := 12) rfl rfl rfl (Sl.Acts.buildSlice ap_129 rfl rfl rfl rfl) rfl (fun _ _ hx => ?_) (fun _ hx => by obtain ⟨_, hx, _⟩ := hx; cases hx)
            (obtain ⟨b21, hv, rfl⟩ := hx; cases hv)
            refine Sl.GD.append1 (i := 13) (freeAt i j x) Go.En.Free.el rfl rfl rfl rfl rfl ap_129 rfl (.t (.t .h)) (by omega) .h rfl rfl (fun p22 c23 => ?_)
            refine Sl.GD.take (i := 14) rfl rfl rfl (Sl.RO.nilCheck rfl) rfl ?_
            refine Sl.GD.take (i := 15) rfl rfl rfl (Sl.RO.fieldAddr rfl fo_151_0) rfl ?_
            refine Sl.GD.thaw (i := 16) thaw20 rfl ?_
            refine Sl.GD.thaw (i := 16) thaw19 rfl ?_
            refine Sl.GD.thaw (i := 16) thaw18 rfl ?_
            refine Sl.GD.store (i := 16) rfl rfl rfl rfl rfl rfl rfl ly_129 rfl (.t .h) rfl ?_
            refine Sl.GD.done rfl ?_
            refine Sl.Post.blockN ?_
            refine Sl.Post.thenN ?_
            refine Sl.Tr.region ?_
            refine Sl.G.ro (Sl.RO.rd (Sl.RO.addI rfl rfl (by omega))) rfl ?_
            refine Sl.G.ro (Sl.RO.rd (Sl.RO.move rfl)) rfl ?_
            refine Sl.G.nil ?_
            have hfr : insm ((i : Int), (j : Int)) (gs.length : Int) (idxFrom 0 gs) = idxFrom 0 (gs ++ [freeAt i j x]) := by
              rw [idxFrom_snoc, insm_fresh]
              · simp [freeAt]
              · intro p hp heq
                obtain ⟨f, hf1, hf2⟩ := idxFrom_key p gs 0 hp
                rw [heq] at hf2
                rw [hgs, List.mem_append] at hf1
                have h1 : f.node = i := (congrArg (·.1) hf2).symm
                have h2 : f.dom = j := (congrArg (·.2) hf2).symm
                rcases hf1 with h | h
                · have := allFrom_mem f _ 0 h
                  simp at this; omega
                · have := rowFrom_mem i f _ 0 h
                  simp at this; omega
            rw [hfr]
            refine Sl.Post.again ((j + 1, gs ++ [freeAt i j x], p22, c23)) ?_ ?_ ?_ ?_ ?_
            rotate_left
            · omega
            · exact ⟨rfl, trivial⟩
            · exact ⟨rfl, rfl, rfl, rfl, rfl, rfl, rfl, rfl, rfl, rfl, rfl, rfl, rfl, rfl, rfl, rfl, rfl, rfl, rfl, rfl, rfl, rfl, rfl, rfl, rfl, rfl, rfl, rfl, rfl, rfl, rfl, rfl, rfl, rfl, rfl, rfl, rfl, rfl, rfl, rfl, rfl, rfl, trivial⟩
            · exact (.p (.t .h) (.p (.t (.t (.t (.t .h)))) (.p (.t (.t .h)) (.p (.t (.t (.t .h))) (.p (.t (.t (.t .h))) .o)))))
            have htl : (r.ds.take j).length = j := by simp; omega
            refine ⟨by omega, ?_, ?_, by simp only [List.length_append, List.length_cons, List.length_nil]; omega⟩
            · rw [take_succ' hx, rowFrom_snoc, htl, hgs]; simp
            · rw [take_succ' hx]
              intro y hy
              rcases List.mem_append.1 hy with h | h
              · exact hgd y h
              · simp at h; subst h; exact hgx
        · obtain rfl : j = r.ds.length := by omega
          rw [List.take_length] at hgs hgd
          refine Sl.Post.again ((i + 1, gs, q2, e2)) ?_ ?_ ?_ ?_ ?_
          rotate_left
          · omega
          · exact ⟨rfl, trivial⟩
          · exact ⟨rfl, rfl, rfl, rfl, rfl, rfl, rfl, rfl, rfl, rfl, rfl, rfl, rfl, rfl, rfl, rfl, rfl, rfl, rfl, rfl, rfl, rfl, trivial⟩
          · exact (.p .h (.p .h (.p .h (.p (.t .h) .o))))
          have hil : (l.take i).length = i := by simp; omega
          refine ⟨by omega, ?_, ?_, by dsimp only; omega⟩
          · rw [take_succ' hr, dsOf, List.map_append, List.map_cons, List.map_nil, allFrom_snoc, hgs, List.length_map, hil, Nat.zero_add]
          · rw [take_succ' hr]
            intro y hy
            rcases List.mem_append.1 hy with h | h
            · exact hg y h
            · simp at h; subst h
              simp only [goodN, Bool.and_eq_true, decide_eq_true_eq, List.all_eq_true]
              exact ⟨by omega, hgd⟩
    · obtain rfl : i = l.length := by omega
      rw [List.take_length] at hf hg
      refine Sl.Post.fin rfl (.tmp rfl (.tmp rfl .nil)) rfl (.p .h (.p (.t .h) (.p .h .n))) ?_ (.inl rfl)
      rw [if_pos]
      · subst hf; exact ⟨_, _, _, _, rfl, rfl⟩
      · simp only [goodC, Bool.and_eq_true, decide_eq_true_eq, List.all_eq_true, dsOf, List.length_map, List.mem_map]
        exact ⟨by omega, fun ds ⟨r, hr, he⟩ => he ▸ hg r hr⟩
end Go.Proofs.YtcaojfapibkplaaGreatDoor
namespace Go.Proofs.YtcaojfapibkplaaGreatDoor
open Go Go.Sl Go.En

theorem topo_All (F : Frm) (b : Nat) (p : Option Addr) (c : Nat) (l : List Free) (m n : Value) (h1 : F.has (pt b (cl [.slice p l.length c, m, n] 151))) (h2 : F.has (sA 157 4 Free.cells p c l)) (hl : l.length ≤ 1000000) :
    FnOk Tryz.prog 42 [.pointer (some ⟨b, 0, none⟩)] [] F (fun r H => ∃ q, r = .slice q l.length l.length ∧ H = [sA 157 4 Free.cells q l.length l]) := by
  refine Sl.FnOk.of (κ := [(0, _)]) Go.Proofs.Tryz.func42 rfl rfl Go.Proofs.Tryz.ntmps42 rfl rfl ?_
  refine Sl.Tr.seq ?_
  refine Sl.Tr.region ?_
  refine Sl.G.ro (Sl.RO.rd (Sl.RO.assign rfl)) rfl ?_
  refine Sl.G.nil ?_
  refine Sl.Post.thenN ?_
  refine Sl.Tr.seq ?_
  refine Sl.Tr.region ?_
  refine Sl.G.ro (Sl.RO.rd (Sl.RO.move rfl)) rfl ?_
  refine Sl.G.ro (Sl.RO.rd (Sl.RO.nilCheck rfl)) rfl ?_
  refine Sl.G.ro (Sl.RO.rd (Sl.RO.fieldAddr rfl fo_151_0)) rfl ?_
  refine Sl.G.ro (Sl.RO.rd (Sl.RO.load1 rfl h1 ly_129 rfl)) rfl ?_
  refine Sl.G.ro (Sl.RO.rd (Sl.RO.lenSl rfl sl_129)) rfl ?_
  refine Sl.G.makeSlice (en := Free.cells) (Free.mk 0 0 0 0) Free.el rfl rfl ap_129 rfl rfl (by omega) rfl (fun q qn => ?_)
  refine Sl.G.ro (Sl.RO.rd (Sl.RO.assign rfl)) rfl ?_
  refine Sl.G.nil ?_
  refine Sl.Post.thenN ?_
  refine Sl.Tr.seq ?_
  refine Sl.Tr.region ?_
  refine Sl.G.ro (Sl.RO.rd (Sl.RO.move rfl)) rfl ?_
  refine Sl.G.ro (Sl.RO.rd (Sl.RO.move rfl)) rfl ?_
  refine Sl.G.ro (Sl.RO.rd (Sl.RO.nilCheck rfl)) rfl ?_
  refine Sl.G.ro (Sl.RO.rd (Sl.RO.fieldAddr rfl fo_151_0)) rfl ?_
  refine Sl.G.ro (Sl.RO.rd (Sl.RO.load1 rfl h1 ly_129 rfl)) rfl ?_
  refine Sl.G.copyF Go.En.Free.el rfl rfl ap_129 rfl .h (by simp) h2 rfl ?_
  refine Sl.G.nil ?_
  refine Sl.Post.thenN ?_
  refine Sl.Tr.seq ?_
  refine Sl.Tr.region ?_
  refine Sl.G.ro (Sl.RO.rd (Sl.RO.move rfl)) rfl ?_
  refine Sl.G.ro (Sl.RO.rd (Sl.RO.assign rfl)) rfl ?_
  refine Sl.G.nil ?_
  refine Sl.Post.thenN ?_
  refine Sl.Tr.ret ?_
  refine Sl.Post.fin rfl (.tmp rfl .nil) rfl (.p .h .n) ?_ (.inl rfl)
  refine ⟨q, ?_, rfl⟩
  rw [List.length_replicate]

theorem allFrom_len : ∀ (l : List (List Units)) (n : Nat), (∀ ds ∈ l, ds.length ≤ 4) → (allFrom n l).length ≤ 4 * l.length
  | [], _, _ => by simp [allFrom]
  | ds :: l, n, h => by
    have h1 := allFrom_len l (n + 1) (fun d hd => h d (by simp [hd]))
    have h2 := h ds (by simp)
    have : ∀ (ds : List Units) (d : Nat), (rowFrom n d ds).length = ds.length := by
      intro ds; induction ds with
      | nil => intro d; rfl
      | cons x r ih => intro d; simp [rowFrom, ih]
    simp only [allFrom, List.length_append, this, List.length_cons]; omega
theorem goodC_len {l : List (List Units)} (h : goodC l = true) : (allFrom 0 l).length ≤ 64 := by
  simp only [goodC, Bool.and_eq_true, decide_eq_true_eq, List.all_eq_true] at h
  have := allFrom_len l 0 (fun d hd => by have := h.2 d hd; simp only [goodN, Bool.and_eq_true, decide_eq_true_eq] at this; omega)
  omega

abbrev kx_180' : Int → Value := ekI
/-- A pool's memory: the topology, what is free, what is drained. -/
abbrev PoolH (b bt : Nat) (p : Option Addr) (c mi n : Nat) (all : List Free) (q : Option Addr) (e md : Nat) (fr : List Free) (dr : List (Int × Int)) : List Assn :=
  [pt b (cl [.pointer (some ⟨bt, 0, none⟩), .slice q fr.length e, .map (some md)] 226)] ++ TopoH bt p c mi n all ++ [sA 157 4 Free.cells q e fr, mA ekI ekI md dr]

theorem pool_New (F : Frm) (p : Option Addr) (c : Nat) (l : List NodeV) (hv : ClF F p c l) : FnOk Tryz.prog 59 [.agg #[.slice p l.length c]] [] F
    (fun r H => if goodC (dsOf l) = true then ∃ b bt pt' ct mi q md, r = .tuple #[.pointer (some ⟨b, 0, none⟩), .int .i64 0] ∧ H = PoolH b bt pt' ct mi l.length (allFrom 0 (dsOf l)) q (allFrom 0 (dsOf l)).length md (allFrom 0 (dsOf l)) []
      else r = .tuple #[.pointer none, .int .i64 1] ∧ H = []) := by
  refine Sl.FnOk.of (κ := [(0, _)]) Go.Proofs.Tryz.func59 rfl rfl Go.Proofs.Tryz.ntmps59 rfl rfl ?_
  refine Sl.Tr.seq ?_
  refine Sl.Tr.region ?_
  refine Sl.G.box rfl rfl rfl (fun b0 => ?_)
  refine Sl.G.ro (Sl.RO.rd (Sl.RO.assign rfl)) rfl ?_
  refine Sl.G.ro (Sl.RO.rd (Sl.RO.assign rfl)) rfl ?_
  refine Sl.G.nil ?_
  refine Sl.Post.thenN ?_
  refine Sl.Tr.seq ?_
  refine Sl.Tr.region ?_
  refine Sl.G.ro (Sl.RD.load rfl .h ly_62 rfl) rfl ?_
  refine Sl.G.call rfl rfl .n (.c .n) .n (fun G' hle hhas => topo_New _ p c l ⟨Frm.has_mono hv.row hle, fun r hr => Frm.has_mono (hv.nds r hr) hle⟩) rfl (fun v K hR => ?_)
  by_cases hgc : goodC (dsOf l) = true
  · rw [if_pos hgc] at hR
    obtain ⟨bt, pt', ct, mi, rfl, rfl⟩ := hR
    have hal := goodC_len hgc
    refine Sl.G.app (.c (.c (.c .n))) ?_
    refine Sl.G.ro (Sl.RO.rd (Sl.RO.move rfl)) rfl ?_
    refine Sl.G.ro (Sl.RO.rd (Sl.RO.extractL rfl rfl)) rfl ?_
    refine Sl.G.ro (Sl.RO.rd (Sl.RO.extractL rfl rfl)) rfl ?_
    refine Sl.G.ro (Sl.RO.rd (Sl.RO.assign rfl)) rfl ?_
    refine Sl.G.ro (Sl.RO.rd (Sl.RO.assign rfl)) rfl ?_
    refine Sl.G.nil ?_
    refine Sl.Post.thenN ?_
    refine Sl.Tr.seq ?_
    refine Sl.Tr.seq ?_
    refine Sl.Tr.region ?_
    refine Sl.G.ro (Sl.RO.rd (Sl.RO.move rfl)) rfl ?_
    refine Sl.G.ro (Sl.RO.rd (Sl.RO.nF (Sl.RO.neq rfl rfl) (by decide))) rfl ?_
    refine Sl.G.nil ?_
    refine Sl.Post.thenN ?_
    refine Sl.Tr.condF rfl ?_
    refine Sl.Tr.skip ?_
    refine Sl.Post.thenN ?_
    refine Sl.Tr.seq ?_
    refine Sl.Tr.region ?_
    refine Sl.G.ro (Sl.RO.rd (Sl.RO.move rfl)) rfl ?_
    refine Sl.G.ro (Sl.RO.rd (Sl.RO.move rfl)) rfl ?_
    refine Sl.G.call rfl rfl .n (.c .n) .n (fun G' hle hhas => topo_All _ bt pt' ct _ _ _ (hhas _ (List.Mem.head _)) (hhas _ (List.Mem.tail _ (List.Mem.head _))) (by omega)) rfl (fun v K hR => ?_)
    obtain ⟨q, rfl, rfl⟩ := hR
    refine Sl.G.app (.c .n) ?_
    refine Sl.G.makeMap kx_180 vx_180 rfl (fun b1 => ?_)
    refine Sl.G.ro (Sl.RO.rd (Sl.RO.build pl_226 zv_226 rfl rfl)) rfl ?_
    refine Sl.G.box rfl rfl rfl (fun b2 => ?_)
    refine Sl.G.ro (Sl.RO.rd (Sl.RO.assign rfl)) rfl ?_
    refine Sl.G.ro (Sl.RO.rd (Sl.RO.assign rfl)) rfl ?_
    refine Sl.G.nil ?_
    refine Sl.Post.thenN ?_
    refine Sl.Tr.ret ?_
    refine Sl.Post.fin rfl (.tmp rfl (.tmp rfl .nil)) rfl (.p .h (.p (.t (.t .h)) (.p (.t (.t .h)) (.p (.t (.t .h)) (.p (.t .h) (.p .h .n)))))) ?_ (.inl rfl)
    rw [if_pos hgc]
    exact ⟨_, _, _, _, _, _, _, rfl, rfl⟩
  · rw [if_neg hgc] at hR
    obtain ⟨rfl, rfl⟩ := hR
    refine Sl.G.app .n ?_
    refine Sl.G.ro (Sl.RO.rd (Sl.RO.move rfl)) rfl ?_
    refine Sl.G.ro (Sl.RO.rd (Sl.RO.extractL rfl rfl)) rfl ?_
    refine Sl.G.ro (Sl.RO.rd (Sl.RO.extractL rfl rfl)) rfl ?_
    refine Sl.G.ro (Sl.RO.rd (Sl.RO.assign rfl)) rfl ?_
    refine Sl.G.ro (Sl.RO.rd (Sl.RO.assign rfl)) rfl ?_
    refine Sl.G.nil ?_
    refine Sl.Post.thenN ?_
    refine Sl.Tr.seq ?_
    refine Sl.Tr.seq ?_
    refine Sl.Tr.region ?_
    refine Sl.G.ro (Sl.RO.rd (Sl.RO.move rfl)) rfl ?_
    refine Sl.G.ro (Sl.RO.rd (Sl.RO.nT (Sl.RO.neq rfl rfl) (by decide))) rfl ?_
    refine Sl.G.nil ?_
    refine Sl.Post.thenN ?_
    refine Sl.Tr.condT rfl ?_
    refine Sl.Tr.seq ?_
    refine Sl.Tr.region ?_
    refine Sl.G.ro (Sl.RO.rd (Sl.RO.move rfl)) rfl ?_
    refine Sl.G.ro (Sl.RO.rd (Sl.RO.assign rfl)) rfl ?_
    refine Sl.G.ro (Sl.RO.rd (Sl.RO.assign rfl)) rfl ?_
    refine Sl.G.nil ?_
    refine Sl.Post.thenN ?_
    refine Sl.Tr.ret ?_
    refine Sl.Post.thenR ?_
    refine Sl.Post.fin rfl (.tmp rfl (.tmp rfl .nil)) rfl .n ?_ (.inl rfl)
    rw [if_neg hgc]
    exact ⟨rfl, rfl⟩
end Go.Proofs.YtcaojfapibkplaaGreatDoor
namespace Go.Proofs.YtcaojfapibkplaaGreatDoor
open Go Go.Sl Go.En

abbrev kx_170 : Int → Value := ekI
abbrev vx_170 (p : Option Addr) : Value := .pointer p
/-- The accounts' memory. -/
abbrev AccsH (b : Nat) (q : Option Addr) (e : Nat) (acs : List AccV) : List Assn := [pt b (cl [.slice q acs.length e] 229), sA 231 1 AccV.cells q e acs, sep (acs.map (AccV.mem 233))]

theorem ledger_New (F : Frm) (p : Option Addr) (c : Nat) (l : List NodeV) (hv : ClF F p c l) (pq : Option Addr) (cq : Nat) (us : List Units) (hq : F.has (sA 104 2 Units.cells pq cq us)) : FnOk Tryz.prog 40 [.agg #[.slice p l.length c], .slice pq us.length cq] [] F
    (fun r H => if goodC (dsOf l) = true ∧ goodQ us = true then ∃ b bp bt pt' ct mi q md ba qa ea acs mh, r = .tuple #[.pointer (some ⟨b, 0, none⟩), .int .i64 0] ∧ acs.map AccV.pure = us.map (fun u => (u, ⟨0, 0⟩)) ∧
        H = [pt b (cl [.int .i32 0, .int .u32 0, .pointer (some ⟨bp, 0, none⟩), .pointer (some ⟨ba, 0, none⟩), .map (some mh), .int .i64 l.length, .int .i64 0] 179), mA ekI vx_170 mh ([] : List (Int × Option Addr))] ++ PoolH bp bt pt' ct mi l.length (allFrom 0 (dsOf l)) q (allFrom 0 (dsOf l)).length md (allFrom 0 (dsOf l)) [] ++ AccsH ba qa ea acs
      else r = .tuple #[.pointer none, .int .i64 1] ∧ H = []) := by
  refine Sl.FnOk.of (κ := [(0, _), (1, _)]) Go.Proofs.Tryz.func40 rfl rfl Go.Proofs.Tryz.ntmps40 rfl rfl ?_
  refine Sl.Tr.seq ?_
  refine Sl.Tr.region ?_
  refine Sl.G.box rfl rfl rfl (fun b0 => ?_)
  refine Sl.G.ro (Sl.RO.rd (Sl.RO.assign rfl)) rfl ?_
  refine Sl.G.ro (Sl.RO.rd (Sl.RO.assign rfl)) rfl ?_
  refine Sl.G.nil ?_
  refine Sl.Post.thenN ?_
  refine Sl.Tr.seq ?_
  refine Sl.Tr.region ?_
  refine Sl.G.ro (Sl.RD.load rfl .h ly_62 rfl) rfl ?_
  refine Sl.G.call rfl rfl .n (.c .n) .n (fun G' hle hhas => pool_New _ p c l ⟨Frm.has_mono hv.row hle, fun r hr => Frm.has_mono (hv.nds r hr) hle⟩) rfl (fun v K hR => ?_)
  by_cases hgc : goodC (dsOf l) = true
  · rw [if_pos hgc] at hR
    obtain ⟨bp, bt, pt', ct, mi, q, md, rfl, rfl⟩ := hR
    refine Sl.G.app (.c (.c (.c (.c (.c (.c .n)))))) ?_
    refine Sl.G.ro (Sl.RO.rd (Sl.RO.move rfl)) rfl ?_
    refine Sl.G.ro (Sl.RO.rd (Sl.RO.extractL rfl rfl)) rfl ?_
    refine Sl.G.ro (Sl.RO.rd (Sl.RO.extractL rfl rfl)) rfl ?_
    refine Sl.G.ro (Sl.RO.rd (Sl.RO.assign rfl)) rfl ?_
    refine Sl.G.ro (Sl.RO.rd (Sl.RO.assign rfl)) rfl ?_
    refine Sl.G.nil ?_
    refine Sl.Post.thenN ?_
    refine Sl.Tr.seq ?_
    refine Sl.Tr.seq ?_
    refine Sl.Tr.region ?_
    refine Sl.G.ro (Sl.RO.rd (Sl.RO.move rfl)) rfl ?_
    refine Sl.G.ro (Sl.RO.rd (Sl.RO.nF (Sl.RO.neq rfl rfl) (by decide))) rfl ?_
    refine Sl.G.nil ?_
    refine Sl.Post.thenN ?_
    refine Sl.Tr.condF rfl ?_
    refine Sl.Tr.skip ?_
    refine Sl.Post.thenN ?_
    refine Sl.Tr.seq ?_
    refine Sl.Tr.region ?_
    refine Sl.G.ro (Sl.RO.rd (Sl.RO.move rfl)) rfl ?_
    refine Sl.G.call rfl rfl .n (.c .n) .n (fun G' hle hhas => quota_New _ pq cq us (Frm.has_mono hq hle)) rfl (fun v K hR => ?_)
    by_cases hgq : goodQ us = true
    · rw [if_pos hgq] at hR
      obtain ⟨ba, qa, ea, acs, rfl, hac, rfl⟩ := hR
      refine Sl.G.app (.c (.c (.c .n))) ?_
      refine Sl.G.ro (Sl.RO.rd (Sl.RO.move rfl)) rfl ?_
      refine Sl.G.ro (Sl.RO.rd (Sl.RO.extractL rfl rfl)) rfl ?_
      refine Sl.G.ro (Sl.RO.rd (Sl.RO.extractL rfl rfl)) rfl ?_
      refine Sl.G.ro (Sl.RO.rd (Sl.RO.assign rfl)) rfl ?_
      refine Sl.G.ro (Sl.RO.rd (Sl.RO.assign rfl)) rfl ?_
      refine Sl.G.nil ?_
      refine Sl.Post.thenN ?_
      refine Sl.Tr.seq ?_
      refine Sl.Tr.seq ?_
      refine Sl.Tr.region ?_
      refine Sl.G.ro (Sl.RO.rd (Sl.RO.move rfl)) rfl ?_
      refine Sl.G.ro (Sl.RO.rd (Sl.RO.nF (Sl.RO.neq rfl rfl) (by decide))) rfl ?_
      refine Sl.G.nil ?_
      refine Sl.Post.thenN ?_
      refine Sl.Tr.condF rfl ?_
      refine Sl.Tr.skip ?_
      refine Sl.Post.thenN ?_
      refine Sl.Tr.seq ?_
      refine Sl.Tr.region ?_
      refine Sl.G.ro (Sl.RO.rd (Sl.RO.move rfl)) rfl ?_
      refine Sl.G.ro (Sl.RO.rd (Sl.RO.move rfl)) rfl ?_
      refine Sl.G.makeMap kx_170 vx_170 rfl (fun b1 => ?_)
      refine Sl.G.ro (Sl.RO.rd (Sl.RO.fieldAddr rfl fo_62_0)) rfl ?_
      refine Sl.G.ro (Sl.RD.load1 rfl (.t (.t (.t (.t (.t (.t (.t (.t (.t (.t .h)))))))))) ly_60 rfl) rfl ?_
      refine Sl.G.ro (Sl.RO.rd (Sl.RO.lenSl rfl sl_60)) rfl ?_
      refine Sl.G.ro (Sl.RO.rd (Sl.RO.build pl_179 zv_179 rfl rfl)) rfl ?_
      refine Sl.G.box rfl rfl rfl (fun b2 => ?_)
      refine Sl.G.ro (Sl.RO.rd (Sl.RO.assign rfl)) rfl ?_
      refine Sl.G.ro (Sl.RO.rd (Sl.RO.assign rfl)) rfl ?_
      refine Sl.G.nil ?_
      refine Sl.Post.thenN ?_
      refine Sl.Tr.ret ?_
      refine Sl.Post.fin rfl (.tmp rfl (.tmp rfl .nil)) rfl (.p .h (.p .h (.p (.t (.t (.t .h))) (.p (.t (.t (.t .h))) (.p (.t (.t (.t .h))) (.p (.t (.t (.t .h))) (.p (.t (.t (.t .h))) (.p (.t (.t (.t .h))) (.p .h (.p .h (.p .h .n))))))))))) ?_ (.inl rfl)
      rw [if_pos ⟨hgc, hgq⟩]
      exact ⟨_, _, _, _, _, _, _, _, _, _, _, _, _, rfl, hac, rfl⟩
    · rw [if_neg hgq] at hR
      obtain ⟨rfl, rfl⟩ := hR
      refine Sl.G.app .n ?_
      refine Sl.G.ro (Sl.RO.rd (Sl.RO.move rfl)) rfl ?_
      refine Sl.G.ro (Sl.RO.rd (Sl.RO.extractL rfl rfl)) rfl ?_
      refine Sl.G.ro (Sl.RO.rd (Sl.RO.extractL rfl rfl)) rfl ?_
      refine Sl.G.ro (Sl.RO.rd (Sl.RO.assign rfl)) rfl ?_
      refine Sl.G.ro (Sl.RO.rd (Sl.RO.assign rfl)) rfl ?_
      refine Sl.G.nil ?_
      refine Sl.Post.thenN ?_
      refine Sl.Tr.seq ?_
      refine Sl.Tr.seq ?_
      refine Sl.Tr.region ?_
      refine Sl.G.ro (Sl.RO.rd (Sl.RO.move rfl)) rfl ?_
      refine Sl.G.ro (Sl.RO.rd (Sl.RO.nT (Sl.RO.neq rfl rfl) (by decide))) rfl ?_
      refine Sl.G.nil ?_
      refine Sl.Post.thenN ?_
      refine Sl.Tr.condT rfl ?_
      refine Sl.Tr.seq ?_
      refine Sl.Tr.region ?_
      refine Sl.G.ro (Sl.RO.rd (Sl.RO.move rfl)) rfl ?_
      refine Sl.G.ro (Sl.RO.rd (Sl.RO.assign rfl)) rfl ?_
      refine Sl.G.ro (Sl.RO.rd (Sl.RO.assign rfl)) rfl ?_
      refine Sl.G.nil ?_
      refine Sl.Post.thenN ?_
      refine Sl.Tr.ret ?_
      refine Sl.Post.thenR ?_
      refine Sl.Post.fin rfl (.tmp rfl (.tmp rfl .nil)) rfl .n ?_ (.inl rfl)
      rw [if_neg (fun h => hgq h.2)]
      exact ⟨rfl, rfl⟩
  · rw [if_neg hgc] at hR
    obtain ⟨rfl, rfl⟩ := hR
    refine Sl.G.app .n ?_
    refine Sl.G.ro (Sl.RO.rd (Sl.RO.move rfl)) rfl ?_
    refine Sl.G.ro (Sl.RO.rd (Sl.RO.extractL rfl rfl)) rfl ?_
    refine Sl.G.ro (Sl.RO.rd (Sl.RO.extractL rfl rfl)) rfl ?_
    refine Sl.G.ro (Sl.RO.rd (Sl.RO.assign rfl)) rfl ?_
    refine Sl.G.ro (Sl.RO.rd (Sl.RO.assign rfl)) rfl ?_
    refine Sl.G.nil ?_
    refine Sl.Post.thenN ?_
    refine Sl.Tr.seq ?_
    refine Sl.Tr.seq ?_
    refine Sl.Tr.region ?_
    refine Sl.G.ro (Sl.RO.rd (Sl.RO.move rfl)) rfl ?_
    refine Sl.G.ro (Sl.RO.rd (Sl.RO.nT (Sl.RO.neq rfl rfl) (by decide))) rfl ?_
    refine Sl.G.nil ?_
    refine Sl.Post.thenN ?_
    refine Sl.Tr.condT rfl ?_
    refine Sl.Tr.seq ?_
    refine Sl.Tr.region ?_
    refine Sl.G.ro (Sl.RO.rd (Sl.RO.move rfl)) rfl ?_
    refine Sl.G.ro (Sl.RO.rd (Sl.RO.assign rfl)) rfl ?_
    refine Sl.G.ro (Sl.RO.rd (Sl.RO.assign rfl)) rfl ?_
    refine Sl.G.nil ?_
    refine Sl.Post.thenN ?_
    refine Sl.Tr.ret ?_
    refine Sl.Post.thenR ?_
    refine Sl.Post.fin rfl (.tmp rfl (.tmp rfl .nil)) rfl .n ?_ (.inl rfl)
    rw [if_neg (fun h => hgc h.1)]
    exact ⟨rfl, rfl⟩
end Go.Proofs.YtcaojfapibkplaaGreatDoor
namespace Go.Proofs.YtcaojfapibkplaaGreatDoor
open Go Go.Sl Go.En

structure QueueV where
  quota : Units
  room : Int
abbrev QueueV.cells (r : QueueV) : List Value := [.int .i64 r.quota.gpus, .int .i64 r.quota.cpus, .int .i64 r.room]
theorem QueueV.el : El QueueV.cells 3 := ⟨fun _ => rfl, fun _ => rfl, by decide⟩

theorem clone_queue (F : Frm) (p : Option Addr) (c : Nat) (l : List QueueV) (hv : F.has (sA 106 3 QueueV.cells p c l)) (hl : l.length ≤ 100000000) : FnOk Tryz.prog 41 [.slice p l.length c] [] F (CloneR 106 3 QueueV.cells l) := by
  have hf := sA_addr hv
  refine Sl.FnOk.of (κ := [(0, _)]) Go.Proofs.Tryz.func41 rfl rfl Go.Proofs.Tryz.ntmps41 rfl rfl ?_
  refine Sl.Tr.seq ?_
  refine Sl.Tr.region ?_
  refine Sl.G.ro (Sl.RO.rd (Sl.RO.assign rfl)) rfl ?_
  refine Sl.G.nil ?_
  refine Sl.Post.thenN ?_
  refine Sl.Tr.seq ?_
  refine Sl.Tr.seq ?_
  refine Sl.Tr.region ?_
  refine Sl.G.ro (Sl.RO.rd (Sl.RO.move rfl)) rfl ?_
  refine Sl.G.ro (Sl.RO.rd (Sl.RO.eqlNil rfl rfl sl_63)) rfl ?_
  refine Sl.G.nil ?_
  refine Sl.Post.thenN ?_
  refine Sl.Tr.cond rfl (fun hb0 => ?_) (fun hb0 => ?_)
  refine Sl.Tr.seq ?_
  refine Sl.Tr.region ?_
  refine Sl.G.ro (Sl.RO.rd (Sl.RO.assign rfl)) rfl ?_
  refine Sl.G.nil ?_
  refine Sl.Post.thenN ?_
  refine Sl.Tr.ret ?_
  refine Sl.Post.thenR ?_
  rotate_left
  refine Sl.Tr.skip ?_
  refine Sl.Post.thenN ?_
  refine Sl.Tr.seq ?_
  refine Sl.Tr.region ?_
  refine Sl.G.buildSlice ap_63 rfl rfl rfl rfl rfl (fun b1 => ?_)
  refine Sl.G.ro (Sl.RO.rd (Sl.RO.move rfl)) rfl ?_
  rotate_left
  · have : p = none := by simpa using ‹p.isNone = true›
    obtain ⟨rfl, rfl⟩ := hf.2.1 this
    refine Sl.Post.nilS 106 3 QueueV.cells ?_
    refine Sl.Post.fin rfl (.tmp rfl .nil) rfl (.p .h .n) ?_ (.inl rfl)
    exact ⟨_, _, rfl, rfl⟩
  · refine Sl.G.mem (fun hs => Sl.Sat.ptsA (l := []) QueueV.el (rfl) .h hs) ?_
    refine Sl.G.appendF Go.Proofs.YtcaojfapibkplaaGreatDoor.QueueV.el rfl rfl ap_63 rfl .h (by simp only [List.length_nil]; omega) hv rfl (fun p2 c3 => ?_)
    refine Sl.G.ro (Sl.RO.rd (Sl.RO.assign rfl)) rfl ?_
    refine Sl.G.nil ?_
    refine Sl.Post.thenN ?_
    refine Sl.Tr.ret ?_
    refine Sl.Post.fin rfl (.tmp rfl .nil) rfl (.p .h .n) ?_ (.inl rfl)
    exact ⟨_, _, rfl, rfl⟩
end Go.Proofs.YtcaojfapibkplaaGreatDoor
namespace Go.Proofs.YtcaojfapibkplaaGreatDoor
open Go Go.Sl Go.En

def goodRooms (l : List Int) : Bool := decide (1 ≤ l.length ∧ l.length ≤ 8) && !(l.any badRoom)
structure ConfV where
  (p : Option Addr) (c : Nat) (nodes : List NodeV)
  (pq : Option Addr) (cq : Nat) (qs : List QueueV)
  (workers timeout runtime age : Int)
abbrev ConfV.cells (v : ConfV) : List Value := [.slice v.p v.nodes.length v.c, .slice v.pq v.qs.length v.cq, .int .i64 v.workers, .int .i64 v.timeout, .int .i64 v.runtime, .int .i64 v.age]
def ConfV.good (v : ConfV) : Bool := goodC (dsOf v.nodes) && inB v.workers 1 4 && inB v.timeout 0 64 && inB v.runtime 1 1024 && inB v.age 1 1024 && goodRooms (v.qs.map (·.room)) && goodQ (v.qs.map (·.quota))

/-- where a new system's parts lie -/
structure SysA where
  (b bg cg bq bl mh bp bt mi md ba btm ctm : Nat)
  (qa1 pw pm ptp q qa ws pqn : Option Addr)
  (cm ct ea cqn : Nat)
  (acs : List AccV)
/-- A new system's memory. -/
abbrev SysA.mem (s : SysA) (cf : ConfV) : List Assn :=
  [pt s.b (cl [.slice cf.p cf.nodes.length cf.c, .slice s.pqn cf.qs.length s.cqn, .int .i64 cf.workers, .int .i64 cf.timeout, .int .i64 cf.runtime, .int .i64 cf.age,
      .slice s.qa1 (allFrom 0 (dsOf cf.nodes)).length (allFrom 0 (dsOf cf.nodes)).length, .int .i64 0, .pointer (some ⟨s.bg, 0, none⟩), .pointer (some ⟨s.bq, 0, none⟩), .pointer (some ⟨s.bl, 0, none⟩), .pointer (some ⟨s.btm, 0, none⟩), .slice s.ws (List.replicate cf.workers.toNat (0 : Int)).length cf.workers.toNat, .int .i64 0, .int .i64 0] 136),
    sA 157 4 Free.cells s.qa1 (allFrom 0 (dsOf cf.nodes)).length (allFrom 0 (dsOf cf.nodes)),
    pt s.bg (cl [.slice none 0 0, .map (some s.cg)] 183), mA ekI ekI s.cg ([] : List (Int × Int)),
    pt s.bq (cl [.slice s.pw (List.replicate cf.qs.length (RowV.mk none 0 [])).length cf.qs.length, .slice s.pm cf.qs.length s.cm] 163), sA 243 1 RowV.cells s.pw cf.qs.length (List.replicate cf.qs.length (RowV.mk none 0 [])), sA 3 1 intE s.pm s.cm (cf.qs.map (·.room)),
    pt s.bl (cl [.int .i32 0, .int .u32 0, .pointer (some ⟨s.bp, 0, none⟩), .pointer (some ⟨s.ba, 0, none⟩), .map (some s.mh), .int .i64 cf.nodes.length, .int .i64 0] 179), mA ekI vx_170 s.mh ([] : List (Int × Option Addr))] ++
    PoolH s.bp s.bt s.ptp s.ct s.mi cf.nodes.length (allFrom 0 (dsOf cf.nodes)) s.q (allFrom 0 (dsOf cf.nodes)).length s.md (allFrom 0 (dsOf cf.nodes)) [] ++ AccsH s.ba s.qa s.ea s.acs ++
  [pt s.btm (cl [.slice none 0 0, .map (some s.ctm)] 188), mA ekI ekI s.ctm ([] : List (Int × Int)), sA 3 1 intE s.ws cf.workers.toNat (List.replicate cf.workers.toNat (0 : Int)), sA 106 3 QueueV.cells s.pqn s.cqn cf.qs]

theorem sched_New (F : Frm) (cf : ConfV) (hv : ClF F cf.p cf.c cf.nodes) (hq : F.has (sA 106 3 QueueV.cells cf.pq cf.cq cf.qs)) (hql : cf.qs.length ≤ 1000000) : FnOk Tryz.prog 23 [.agg (ConfV.cells cf).toArray] [] F
    (fun r H => if cf.good = true then ∃ s : SysA, r = .tuple #[.pointer (some ⟨s.b, 0, none⟩), .int .i64 0] ∧ s.acs.map AccV.pure = (cf.qs.map (·.quota)).map (fun u => (u, ⟨0, 0⟩)) ∧ H = s.mem cf else r = .tuple #[.pointer none, .int .i64 1] ∧ H = []) := by
  refine Sl.FnOk.of (κ := [(0, _)]) Go.Proofs.Tryz.func23 rfl rfl Go.Proofs.Tryz.ntmps23 rfl rfl ?_
  refine Sl.Tr.seq ?_
  refine Sl.Tr.region ?_
  refine Sl.G.box rfl rfl rfl (fun b0 => ?_)
  refine Sl.G.ro (Sl.RO.rd (Sl.RO.assign rfl)) rfl ?_
  refine Sl.G.ro (Sl.RO.rd (Sl.RO.assign rfl)) rfl ?_
  refine Sl.G.nil ?_
  refine Sl.Post.thenN ?_
  refine Sl.Tr.seq ?_
  refine Sl.Tr.region ?_
  refine Sl.G.ro (Sl.RO.rd (Sl.RO.fieldAddr rfl fo_65_0)) rfl ?_
  refine Sl.G.ro (Sl.RD.load rfl .h ly_62 rfl) rfl ?_
  refine Sl.G.call rfl rfl .n (.c .n) .n (fun G' hle hhas => topo_New _ cf.p cf.c cf.nodes ⟨Frm.has_mono hv.row hle, fun r hr => Frm.has_mono (hv.nds r hr) hle⟩) rfl (fun v K hR => ?_)
  by_cases hgc : goodC (dsOf cf.nodes) = true
  · rw [if_pos hgc] at hR
    obtain ⟨bt, pt', ct, mi, rfl, rfl⟩ := hR
    refine Sl.G.app (.c (.c (.c .n))) ?_
    refine Sl.G.ro (Sl.RO.rd (Sl.RO.move rfl)) rfl ?_
    refine Sl.G.ro (Sl.RO.rd (Sl.RO.extractL rfl rfl)) rfl ?_
    refine Sl.G.ro (Sl.RO.rd (Sl.RO.extractL rfl rfl)) rfl ?_
    refine Sl.G.ro (Sl.RO.rd (Sl.RO.assign rfl)) rfl ?_
    refine Sl.G.ro (Sl.RO.rd (Sl.RO.assign rfl)) rfl ?_
    refine Sl.G.nil ?_
    refine Sl.Post.thenN ?_
    refine Sl.Tr.seq ?_
    refine Sl.Tr.seq ?_
    refine Sl.Tr.region ?_
    refine Sl.G.ro (Sl.RO.rd (Sl.RO.move rfl)) rfl ?_
    refine Sl.G.ro (Sl.RO.rd (Sl.RO.nF (Sl.RO.neq rfl rfl) (by decide))) rfl ?_
    refine Sl.G.ro (Sl.RO.rd (Sl.RO.move rfl)) rfl ?_
    refine Sl.G.un rfl ?_
    refine Sl.G.ro (Sl.RO.rd (Sl.RO.fieldAddr rfl fo_65_2)) rfl ?_
    refine Sl.G.un rfl ?_
    refine Sl.G.ro (Sl.RD.load1 rfl (.t (.t (.t .h))) ly_3 rfl) rfl ?_
    refine Sl.G.un rfl ?_
    refine Sl.G.call rfl rfl .n (.c (.c (.c .n))) .n (fun G' hle hhas => sched_in _ cf.workers 1 4) rfl (fun v K hR => ?_)
    obtain ⟨rfl, rfl⟩ := hR
    refine Sl.G.app .n ?_
    refine Sl.G.un rfl ?_
    refine Sl.G.ro (Sl.RO.rd (Sl.RO.not rfl)) rfl ?_
    refine Sl.G.ro (Sl.RO.rd (Sl.RO.pickF rfl rfl)) rfl ?_
    refine Sl.G.ro (Sl.RO.rd (Sl.RO.move rfl)) rfl ?_
    cases hw : inB cf.workers 1 4
    · refine Sl.G.pass rfl rfl ?_
      refine Sl.G.pass rfl rfl ?_
      refine Sl.G.pass rfl rfl ?_
      refine Sl.G.pass rfl rfl ?_
      refine Sl.G.ro (Sl.RO.rd (Sl.RO.pickT rfl rfl)) rfl ?_
      refine Sl.G.ro (Sl.RO.rd (Sl.RO.move rfl)) rfl ?_
      refine Sl.G.pass rfl rfl ?_
      refine Sl.G.pass rfl rfl ?_
      refine Sl.G.pass rfl rfl ?_
      refine Sl.G.pass rfl rfl ?_
      refine Sl.G.ro (Sl.RO.rd (Sl.RO.pickT rfl rfl)) rfl ?_
      refine Sl.G.ro (Sl.RO.rd (Sl.RO.move rfl)) rfl ?_
      refine Sl.G.pass rfl rfl ?_
      refine Sl.G.pass rfl rfl ?_
      refine Sl.G.pass rfl rfl ?_
      refine Sl.G.pass rfl rfl ?_
      refine Sl.G.ro (Sl.RO.rd (Sl.RO.pickT rfl rfl)) rfl ?_
      refine Sl.G.nil ?_
      refine Sl.Post.thenN ?_
      refine Sl.Tr.condT rfl ?_
      refine Sl.Tr.seq ?_
      refine Sl.Tr.region ?_
      refine Sl.G.ro (Sl.RO.rd (Sl.RO.assign rfl)) rfl ?_
      refine Sl.G.ro (Sl.RO.rd (Sl.RO.assign rfl)) rfl ?_
      refine Sl.G.nil ?_
      refine Sl.Post.thenN ?_
      refine Sl.Tr.ret ?_
      refine Sl.Post.thenR ?_
      refine Sl.Post.fin rfl (.tmp rfl (.tmp rfl .nil)) rfl .n ?_ (.inl rfl)
      rw [if_neg (by simp [ConfV.good, hw])]
      exact ⟨rfl, rfl⟩
    refine Sl.G.un rfl ?_
    refine Sl.G.ro (Sl.RO.rd (Sl.RO.fieldAddr rfl fo_65_3)) rfl ?_
    refine Sl.G.un rfl ?_
    refine Sl.G.ro (Sl.RD.load1 rfl (.t (.t (.t .h))) ly_3 rfl) rfl ?_
    refine Sl.G.un rfl ?_
    refine Sl.G.call rfl rfl .n (.c (.c (.c .n))) .n (fun G' hle hhas => sched_in _ cf.timeout 0 64) rfl (fun v K hR => ?_)
    obtain ⟨rfl, rfl⟩ := hR
    refine Sl.G.app .n ?_
    refine Sl.G.un rfl ?_
    refine Sl.G.ro (Sl.RO.rd (Sl.RO.not rfl)) rfl ?_
    refine Sl.G.ro (Sl.RO.rd (Sl.RO.pickF rfl rfl)) rfl ?_
    refine Sl.G.ro (Sl.RO.rd (Sl.RO.move rfl)) rfl ?_
    cases ht : inB cf.timeout 0 64
    · refine Sl.G.pass rfl rfl ?_
      refine Sl.G.pass rfl rfl ?_
      refine Sl.G.pass rfl rfl ?_
      refine Sl.G.pass rfl rfl ?_
      refine Sl.G.ro (Sl.RO.rd (Sl.RO.pickT rfl rfl)) rfl ?_
      refine Sl.G.ro (Sl.RO.rd (Sl.RO.move rfl)) rfl ?_
      refine Sl.G.pass rfl rfl ?_
      refine Sl.G.pass rfl rfl ?_
      refine Sl.G.pass rfl rfl ?_
      refine Sl.G.pass rfl rfl ?_
      refine Sl.G.ro (Sl.RO.rd (Sl.RO.pickT rfl rfl)) rfl ?_
      refine Sl.G.nil ?_
      refine Sl.Post.thenN ?_
      refine Sl.Tr.condT rfl ?_
      refine Sl.Tr.seq ?_
      refine Sl.Tr.region ?_
      refine Sl.G.ro (Sl.RO.rd (Sl.RO.assign rfl)) rfl ?_
      refine Sl.G.ro (Sl.RO.rd (Sl.RO.assign rfl)) rfl ?_
      refine Sl.G.nil ?_
      refine Sl.Post.thenN ?_
      refine Sl.Tr.ret ?_
      refine Sl.Post.thenR ?_
      refine Sl.Post.fin rfl (.tmp rfl (.tmp rfl .nil)) rfl .n ?_ (.inl rfl)
      rw [if_neg (by simp [ConfV.good, ht])]
      exact ⟨rfl, rfl⟩
    refine Sl.G.un rfl ?_
    refine Sl.G.ro (Sl.RO.rd (Sl.RO.fieldAddr rfl fo_65_4)) rfl ?_
    refine Sl.G.un rfl ?_
    refine Sl.G.ro (Sl.RD.load1 rfl (.t (.t (.t .h))) ly_3 rfl) rfl ?_
    refine Sl.G.un rfl ?_
    refine Sl.G.call rfl rfl .n (.c (.c (.c .n))) .n (fun G' hle hhas => sched_in _ cf.runtime 1 1024) rfl (fun v K hR => ?_)
    obtain ⟨rfl, rfl⟩ := hR
    refine Sl.G.app .n ?_
    refine Sl.G.un rfl ?_
    refine Sl.G.ro (Sl.RO.rd (Sl.RO.not rfl)) rfl ?_
    refine Sl.G.ro (Sl.RO.rd (Sl.RO.pickF rfl rfl)) rfl ?_
    refine Sl.G.ro (Sl.RO.rd (Sl.RO.move rfl)) rfl ?_
    cases hr : inB cf.runtime 1 1024
    · refine Sl.G.pass rfl rfl ?_
      refine Sl.G.pass rfl rfl ?_
      refine Sl.G.pass rfl rfl ?_
      refine Sl.G.pass rfl rfl ?_
      refine Sl.G.ro (Sl.RO.rd (Sl.RO.pickT rfl rfl)) rfl ?_
      refine Sl.G.nil ?_
      refine Sl.Post.thenN ?_
      refine Sl.Tr.condT rfl ?_
      refine Sl.Tr.seq ?_
      refine Sl.Tr.region ?_
      refine Sl.G.ro (Sl.RO.rd (Sl.RO.assign rfl)) rfl ?_
      refine Sl.G.ro (Sl.RO.rd (Sl.RO.assign rfl)) rfl ?_
      refine Sl.G.nil ?_
      refine Sl.Post.thenN ?_
      refine Sl.Tr.ret ?_
      refine Sl.Post.thenR ?_
      refine Sl.Post.fin rfl (.tmp rfl (.tmp rfl .nil)) rfl .n ?_ (.inl rfl)
      rw [if_neg (by simp [ConfV.good, hr])]
      exact ⟨rfl, rfl⟩
    refine Sl.G.un rfl ?_
    refine Sl.G.ro (Sl.RO.rd (Sl.RO.fieldAddr rfl fo_65_5)) rfl ?_
    refine Sl.G.un rfl ?_
    refine Sl.G.ro (Sl.RD.load1 rfl (.t (.t (.t .h))) ly_3 rfl) rfl ?_
    refine Sl.G.un rfl ?_
    refine Sl.G.call rfl rfl .n (.c (.c (.c .n))) .n (fun G' hle hhas => sched_in _ cf.age 1 1024) rfl (fun v K hR => ?_)
    obtain ⟨rfl, rfl⟩ := hR
    refine Sl.G.app .n ?_
    refine Sl.G.un rfl ?_
    refine Sl.G.ro (Sl.RO.rd (Sl.RO.not rfl)) rfl ?_
    refine Sl.G.ro (Sl.RO.rd (Sl.RO.pickF rfl rfl)) rfl ?_
    refine Sl.G.nil ?_
    refine Sl.Post.thenN ?_
    refine Sl.Tr.cond rfl (fun hb1 => ?_) (fun hb1 => ?_)
    refine Sl.Tr.seq ?_
    refine Sl.Tr.region ?_
    refine Sl.G.ro (Sl.RO.rd (Sl.RO.assign rfl)) rfl ?_
    refine Sl.G.ro (Sl.RO.rd (Sl.RO.assign rfl)) rfl ?_
    refine Sl.G.nil ?_
    refine Sl.Post.thenN ?_
    refine Sl.Tr.ret ?_
    refine Sl.Post.thenR ?_
    rotate_left
    refine Sl.Tr.skip ?_
    refine Sl.Post.thenN ?_
    refine Sl.Tr.seq ?_
    refine Sl.Tr.region ?_
    refine Sl.G.ro (Sl.RO.rd (Sl.RO.assign rfl)) rfl ?_
    refine Sl.G.nil ?_
    refine Sl.Post.thenN ?_
    refine Sl.Tr.seq ?_
    refine Sl.Tr.region ?_
    refine Sl.G.ro (Sl.RO.rd (Sl.RO.assign rfl)) rfl ?_
    refine Sl.G.nil ?_
    refine Sl.Post.thenN ?_
    refine Sl.Tr.seq ?_
    refine Sl.Tr.seq ?_
    refine Sl.Tr.region ?_
    refine Sl.G.ro (Sl.RO.rd (Sl.RO.fieldAddr rfl fo_65_1)) rfl ?_
    refine Sl.G.ro (Sl.RD.load1 rfl (.t (.t (.t .h))) ly_63 rfl) rfl ?_
    refine Sl.G.ro (Sl.RO.rd (Sl.RO.lenSl rfl sl_63)) rfl ?_
    refine Sl.G.ro (Sl.RO.rd (Sl.RO.move rfl)) rfl ?_
    refine Sl.G.nil ?_
    refine Sl.Post.thenN ?_
    refine Sl.Tr.block ?_
    rotate_left
    · have ha : inB cf.age 1 1024 = false := by simpa using ‹(!inB cf.age 1 1024) = true›
      refine Sl.Post.fin rfl (.tmp rfl (.tmp rfl .nil)) rfl .n ?_ (.inl rfl)
      rw [if_neg (by simp [ConfV.good, ha])]
      exact ⟨rfl, rfl⟩
    have ha : inB cf.age 1 1024 = true := by simpa using ‹(!inB cf.age 1 1024) = false›
    refine Sl.Tr.nilS 3 1 intE ?_
    refine Sl.Tr.nilS 104 2 Units.cells ?_
    refine Sl.Tr.loop (α := Nat × List Int × Option Addr × Nat × List Units × Option Addr × Nat) (fun g => [(47, .int .i64 (g.1 : Nat)), (6, .slice g.2.2.1 g.2.1.length g.2.2.2.1), (7, .slice g.2.2.2.2.2.1 g.2.2.2.2.1.length g.2.2.2.2.2.2)]) [(46, _), (45, _), (44, _), (43, _), (42, _), (41, _), (40, _), (39, _), (38, _), (37, _), (36, _), (35, _), (34, _), (33, _), (32, _), (31, _), (30, _), (29, _), (28, _), (27, _), (26, _), (25, _), (24, _), (23, _), (22, _), (21, _), (20, _), (19, _), (18, _), (5, _), (4, _), (17, _), (16, _), (12, _), (15, _), (14, _), (13, _), (3, _), (2, _), (1, _), (0, _)] (fun g => [sA 3 1 intE g.2.2.1 g.2.2.2.1 g.2.1, sA 104 2 Units.cells g.2.2.2.2.2.1 g.2.2.2.2.2.2 g.2.2.2.2.1]) [_, _, _, _] (fun g => g.1 ≤ cf.qs.length ∧ g.2.1 = (cf.qs.take g.1).map (·.room) ∧ g.2.2.2.2.1 = (cf.qs.take g.1).map (·.quota)) (fun g => cf.qs.length - g.1) ((0, [], none, 0, [], none, 0)) ?_ ⟨rfl, rfl, rfl, trivial⟩ ⟨rfl, rfl, rfl, rfl, rfl, rfl, rfl, rfl, rfl, rfl, rfl, rfl, rfl, rfl, rfl, rfl, rfl, rfl, rfl, rfl, rfl, rfl, rfl, rfl, rfl, rfl, rfl, rfl, rfl, rfl, rfl, rfl, rfl, rfl, rfl, rfl, rfl, rfl, rfl, rfl, rfl, trivial⟩ (.p (.t .h) (.p .h (.p .h (.p .h (.p .h (.p .h .o)))))) ?_
    · exact ⟨Nat.zero_le _, rfl, rfl⟩
    rintro ⟨i, ro, pr, cr, qu, pu, cu⟩ ⟨hi, hro, hqu⟩
    dsimp only [List.cons_append, List.nil_append]
    (try dsimp only at *)
    have hrl : ro.length = i := by rw [hro]; simp; omega
    have hul : qu.length = i := by rw [hqu]; simp; omega
    refine Sl.Tr.seq ?_
    refine Sl.Tr.region ?_
    refine Sl.G.cmp (Sl.RO.lss rfl rfl) rfl (fun hc2 => ?_) (fun hc2 => ?_)
    refine Sl.G.nil ?_
    refine Sl.Post.thenN ?_
    refine Sl.Tr.seq ?_
    refine Sl.Tr.condT rfl ?_
    refine Sl.Tr.skip ?_
    refine Sl.Post.thenN ?_
    refine Sl.Tr.seq ?_
    refine Sl.Tr.block ?_
    refine Sl.Tr.seq ?_
    refine Sl.Tr.region ?_
    rotate_left
    refine Sl.G.nil ?_
    refine Sl.Post.thenN ?_
    refine Sl.Tr.seq ?_
    refine Sl.Tr.condF rfl ?_
    refine Sl.Tr.exit ?_
    refine Sl.Post.thenE ?_
    refine Sl.Post.thenE ?_
    refine Sl.Post.blockE ?_
    refine Sl.Post.thenN ?_
    refine Sl.Tr.seq ?_
    refine Sl.Tr.region ?_
    refine Sl.G.ro (Sl.RO.rd (Sl.RO.move rfl)) rfl ?_
    rotate_left
    · obtain ⟨q, hq1⟩ := get_lt (l := cf.qs) (i := i) (by omega)
      refine Sl.G.ro (Sl.RO.rd (Sl.RO.atEl rfl rfl sl_63 hq (by assumption))) rfl ?_
      refine Sl.G.ro (Sl.RO.rd (Sl.RO.loadEp rfl hq (by assumption) ly_106 rfl)) rfl ?_
      refine Sl.G.alloc zv_106 rfl (fun b3 => ?_)
      refine Sl.G.store rfl rfl rfl rfl ly_106 rfl .h rfl ?_
      refine Sl.G.nil ?_
      refine Sl.Post.thenN ?_
      refine Sl.Tr.freeze .h (fun G4 hle4 hfz4 back4 thaw4 => ?_)
      have hq_4 := Sl.Frm.has_mono hq hle4
      refine Sl.Tr.draw (fuel := 12) (listed := [false, false, false, false, false, false, false, false, false, false, false, false]) mixed rfl rfl ?_
      refine Sl.GD.take (i := 0) rfl rfl rfl (Sl.RO.move rfl) rfl ?_
      refine Sl.GD.take (i := 1) rfl rfl rfl (Sl.RO.fieldAddr rfl fo_106_1) rfl ?_
      refine Sl.GD.take (i := 2) rfl rfl rfl (Sl.RO.load1 rfl hfz4 ly_3 rfl) rfl ?_
      refine Sl.GD.take (i := 5) rfl rfl rfl (Sl.RO.move rfl) rfl ?_
      refine Sl.GD.take (i := 6) rfl rfl rfl (Sl.RO.fieldAddr rfl fo_106_0) rfl ?_
      refine Sl.GD.take (i := 7) rfl rfl rfl (Sl.RO.load rfl hfz4 ly_104 rfl) rfl ?_
      refine Sl.GD.of2 (i := 3) (j := 8) rfl ?_ ?_
      · refine Sl.GD1.acts rfl rfl (Sl.Acts.buildSlice ap_120 rfl rfl rfl rfl) rfl (fun _ _ hx => ?_) (fun _ hx => by obtain ⟨_, hx, _⟩ := hx; cases hx)
        (obtain ⟨b5, hv, rfl⟩ := hx; cases hv)
        refine Sl.GD.of2 (i := 4) (j := 8) rfl ?_ ?_
        · refine Sl.GD1.append1 (q.room) Go.En.intE.el rfl rfl rfl rfl ap_120 rfl (.t .h) (by omega) .h rfl rfl (fun p6 c7 => ?_)
          refine Sl.GD.acts (i := 8) rfl rfl rfl (Sl.Acts.buildSlice ap_121 rfl rfl rfl rfl) rfl (fun _ _ hx => ?_) (fun _ hx => by obtain ⟨_, hx, _⟩ := hx; cases hx)
          (obtain ⟨b8, hv, rfl⟩ := hx; cases hv)
          refine Sl.GD.append1 (i := 9) (q.quota) Go.En.Units.el rfl rfl rfl rfl rfl ap_121 rfl (.t (.t (.t .h))) (by omega) .h rfl rfl (fun p9 c10 => ?_)
          refine Sl.GD.take (i := 10) rfl rfl rfl (Sl.RO.assign rfl) rfl ?_
          refine Sl.GD.take (i := 11) rfl rfl rfl (Sl.RO.assign rfl) rfl ?_
          refine Sl.GD.done rfl (back4 _ _ _ _ _ _ ?_)
          refine Sl.Post.blockN ?_
          refine Sl.Post.thenN ?_
          refine Sl.Tr.region ?_
          refine Sl.G.ro (Sl.RO.rd (Sl.RO.addI rfl rfl (by omega))) rfl ?_
          refine Sl.G.ro (Sl.RO.rd (Sl.RO.move rfl)) rfl ?_
          refine Sl.G.nil ?_
          refine Sl.Post.again ((i + 1, ro ++ [q.room], p6, c7, qu ++ [q.quota], p9, c10)) ?_ ?_ ?_ ?_ ?_
          rotate_left
          · omega
          · exact ⟨rfl, rfl, rfl, trivial⟩
          · exact ⟨rfl, rfl, rfl, rfl, rfl, rfl, rfl, rfl, rfl, rfl, rfl, rfl, rfl, rfl, rfl, rfl, rfl, rfl, rfl, rfl, rfl, rfl, rfl, rfl, rfl, rfl, rfl, rfl, rfl, rfl, rfl, rfl, rfl, rfl, rfl, rfl, rfl, rfl, rfl, rfl, rfl, trivial⟩
          · exact (.p (.t (.t (.t .h))) (.p (.t .h) (.p (.t (.t (.t .h))) (.p (.t (.t (.t .h))) (.p (.t (.t (.t .h))) (.p (.t (.t (.t .h))) .o))))))
          exact ⟨by omega, by rw [take_succ' hq1, List.map_append, hro]; rfl, by rw [take_succ' hq1, List.map_append, hqu]; rfl⟩
        · refine Sl.GD1.acts rfl rfl (Sl.Acts.buildSlice ap_121 rfl rfl rfl rfl) rfl (fun _ _ hx => ?_) (fun _ hx => by obtain ⟨_, hx, _⟩ := hx; cases hx)
          (obtain ⟨b11, hv, rfl⟩ := hx; cases hv)
          refine Sl.GD.append1 (i := 4) (q.room) Go.En.intE.el rfl rfl rfl rfl rfl ap_120 rfl (.t (.t .h)) (by omega) (.t .h) rfl rfl (fun p12 c13 => ?_)
          refine Sl.GD.append1 (i := 9) (q.quota) Go.En.Units.el rfl rfl rfl rfl rfl ap_121 rfl (.t (.t (.t .h))) (by omega) (.t .h) rfl rfl (fun p14 c15 => ?_)
          refine Sl.GD.take (i := 10) rfl rfl rfl (Sl.RO.assign rfl) rfl ?_
          refine Sl.GD.take (i := 11) rfl rfl rfl (Sl.RO.assign rfl) rfl ?_
          refine Sl.GD.done rfl (back4 _ _ _ _ _ _ ?_)
          refine Sl.Post.blockN ?_
          refine Sl.Post.thenN ?_
          refine Sl.Tr.region ?_
          refine Sl.G.ro (Sl.RO.rd (Sl.RO.addI rfl rfl (by omega))) rfl ?_
          refine Sl.G.ro (Sl.RO.rd (Sl.RO.move rfl)) rfl ?_
          refine Sl.G.nil ?_
          refine Sl.Post.again ((i + 1, ro ++ [q.room], p12, c13, qu ++ [q.quota], p14, c15)) ?_ ?_ ?_ ?_ ?_
          rotate_left
          · omega
          · exact ⟨rfl, rfl, rfl, trivial⟩
          · exact ⟨rfl, rfl, rfl, rfl, rfl, rfl, rfl, rfl, rfl, rfl, rfl, rfl, rfl, rfl, rfl, rfl, rfl, rfl, rfl, rfl, rfl, rfl, rfl, rfl, rfl, rfl, rfl, rfl, rfl, rfl, rfl, rfl, rfl, rfl, rfl, rfl, rfl, rfl, rfl, rfl, rfl, trivial⟩
          · exact (.p (.t (.t .h)) (.p (.t .h) (.p (.t (.t (.t .h))) (.p (.t (.t (.t .h))) (.p (.t (.t (.t .h))) (.p (.t (.t (.t .h))) .o))))))
          exact ⟨by omega, by rw [take_succ' hq1, List.map_append, hro]; rfl, by rw [take_succ' hq1, List.map_append, hqu]; rfl⟩
      · refine Sl.GD1.acts rfl rfl (Sl.Acts.buildSlice ap_121 rfl rfl rfl rfl) rfl (fun _ _ hx => ?_) (fun _ hx => by obtain ⟨_, hx, _⟩ := hx; cases hx)
        (obtain ⟨b16, hv, rfl⟩ := hx; cases hv)
        refine Sl.GD.acts (i := 3) rfl rfl rfl (Sl.Acts.buildSlice ap_120 rfl rfl rfl rfl) rfl (fun _ _ hx => ?_) (fun _ hx => by obtain ⟨_, hx, _⟩ := hx; cases hx)
        (obtain ⟨b17, hv, rfl⟩ := hx; cases hv)
        refine Sl.GD.append1 (i := 4) (q.room) Go.En.intE.el rfl rfl rfl rfl rfl ap_120 rfl (.t (.t .h)) (by omega) .h rfl rfl (fun p18 c19 => ?_)
        refine Sl.GD.append1 (i := 9) (q.quota) Go.En.Units.el rfl rfl rfl rfl rfl ap_121 rfl (.t (.t (.t .h))) (by omega) (.t (.t .h)) rfl rfl (fun p20 c21 => ?_)
        refine Sl.GD.take (i := 10) rfl rfl rfl (Sl.RO.assign rfl) rfl ?_
        refine Sl.GD.take (i := 11) rfl rfl rfl (Sl.RO.assign rfl) rfl ?_
        refine Sl.GD.done rfl (back4 _ _ _ _ _ _ ?_)
        refine Sl.Post.blockN ?_
        refine Sl.Post.thenN ?_
        refine Sl.Tr.region ?_
        refine Sl.G.ro (Sl.RO.rd (Sl.RO.addI rfl rfl (by omega))) rfl ?_
        refine Sl.G.ro (Sl.RO.rd (Sl.RO.move rfl)) rfl ?_
        refine Sl.G.nil ?_
        refine Sl.Post.again ((i + 1, ro ++ [q.room], p18, c19, qu ++ [q.quota], p20, c21)) ?_ ?_ ?_ ?_ ?_
        rotate_left
        · omega
        · exact ⟨rfl, rfl, rfl, trivial⟩
        · exact ⟨rfl, rfl, rfl, rfl, rfl, rfl, rfl, rfl, rfl, rfl, rfl, rfl, rfl, rfl, rfl, rfl, rfl, rfl, rfl, rfl, rfl, rfl, rfl, rfl, rfl, rfl, rfl, rfl, rfl, rfl, rfl, rfl, rfl, rfl, rfl, rfl, rfl, rfl, rfl, rfl, rfl, trivial⟩
        · exact (.p (.t (.t .h)) (.p (.t .h) (.p (.t (.t (.t .h))) (.p (.t (.t (.t .h))) (.p (.t (.t (.t .h))) (.p (.t (.t (.t .h))) .o))))))
        exact ⟨by omega, by rw [take_succ' hq1, List.map_append, hro]; rfl, by rw [take_succ' hq1, List.map_append, hqu]; rfl⟩
    · obtain rfl : i = cf.qs.length := by omega
      rw [List.take_length] at hro hqu
      refine Sl.G.call rfl rfl .n (.c .n) .n (fun G' hle hhas => queue_New _ pr cr ro (hhas _ (List.Mem.head _)) (by omega)) rfl (fun v K hR => ?_)
      by_cases hqg : 1 ≤ ro.length ∧ ro.length ≤ 8 ∧ ro.any badRoom = false
      · rw [if_pos hqg] at hR
        obtain ⟨bq, pw, pm, cm, rfl, rfl⟩ := hR
        refine Sl.G.app (.c (.c (.c .n))) ?_
        refine Sl.G.ro (Sl.RO.rd (Sl.RO.move rfl)) rfl ?_
        refine Sl.G.ro (Sl.RO.rd (Sl.RO.extractL rfl rfl)) rfl ?_
        refine Sl.G.ro (Sl.RO.rd (Sl.RO.extractL rfl rfl)) rfl ?_
        refine Sl.G.ro (Sl.RO.rd (Sl.RO.assign rfl)) rfl ?_
        refine Sl.G.ro (Sl.RO.rd (Sl.RO.assign rfl)) rfl ?_
        refine Sl.G.nil ?_
        refine Sl.Post.thenN ?_
        refine Sl.Tr.seq ?_
        refine Sl.Tr.seq ?_
        refine Sl.Tr.region ?_
        refine Sl.G.ro (Sl.RO.rd (Sl.RO.move rfl)) rfl ?_
        refine Sl.G.ro (Sl.RO.rd (Sl.RO.nF (Sl.RO.neq rfl rfl) (by decide))) rfl ?_
        refine Sl.G.nil ?_
        refine Sl.Post.thenN ?_
        refine Sl.Tr.condF rfl ?_
        refine Sl.Tr.skip ?_
        refine Sl.Post.thenN ?_
        refine Sl.Tr.seq ?_
        refine Sl.Tr.region ?_
        refine Sl.G.ro (Sl.RO.rd (Sl.RO.fieldAddr rfl fo_65_0)) rfl ?_
        refine Sl.G.ro (Sl.RD.load rfl (.t (.t (.t (.t (.t (.t (.t (.t .h)))))))) ly_62 rfl) rfl ?_
        refine Sl.G.ro (Sl.RO.rd (Sl.RO.move rfl)) rfl ?_
        refine Sl.G.call rfl rfl .n (.c (.c .n)) .n (fun G' hle hhas => ledger_New _ cf.p cf.c cf.nodes ⟨Frm.has_mono hv.row hle, fun r hr => Frm.has_mono (hv.nds r hr) hle⟩ pu cu qu (hhas _ (List.Mem.tail _ (List.Mem.tail _ (List.Mem.tail _ (List.Mem.tail _ (List.Mem.head _))))))) rfl (fun v K hR => ?_)
        by_cases hlg : goodC (dsOf cf.nodes) = true ∧ goodQ qu = true
        · rw [if_pos hlg] at hR
          obtain ⟨bl, bp, bt2, pt2, ct2, mi2, q2, md, ba, qa, ea, acs, mh, rfl, hac, rfl⟩ := hR
          refine Sl.G.app (.c (.c (.c (.c (.c (.c (.c (.c (.c (.c (.c .n))))))))))) ?_
          refine Sl.G.ro (Sl.RO.rd (Sl.RO.move rfl)) rfl ?_
          refine Sl.G.ro (Sl.RO.rd (Sl.RO.extractL rfl rfl)) rfl ?_
          refine Sl.G.ro (Sl.RO.rd (Sl.RO.extractL rfl rfl)) rfl ?_
          refine Sl.G.ro (Sl.RO.rd (Sl.RO.assign rfl)) rfl ?_
          refine Sl.G.ro (Sl.RO.rd (Sl.RO.assign rfl)) rfl ?_
          refine Sl.G.nil ?_
          refine Sl.Post.thenN ?_
          refine Sl.Tr.seq ?_
          refine Sl.Tr.seq ?_
          refine Sl.Tr.region ?_
          refine Sl.G.ro (Sl.RO.rd (Sl.RO.move rfl)) rfl ?_
          refine Sl.G.ro (Sl.RO.rd (Sl.RO.nF (Sl.RO.neq rfl rfl) (by decide))) rfl ?_
          refine Sl.G.nil ?_
          refine Sl.Post.thenN ?_
          refine Sl.Tr.condF rfl ?_
          refine Sl.Tr.skip ?_
          refine Sl.Post.thenN ?_
          refine Sl.Tr.seq ?_
          refine Sl.Tr.region ?_
          refine Sl.G.ro (Sl.RO.rd (Sl.RO.fieldAddr rfl fo_65_1)) rfl ?_
          refine Sl.G.ro (Sl.RD.load1 rfl (.t (.t (.t (.t (.t (.t (.t (.t (.t (.t (.t (.t (.t (.t (.t (.t (.t (.t (.t .h))))))))))))))))))) ly_63 rfl) rfl ?_
          refine Sl.G.call rfl rfl .n (.c .n) .n (fun G' hle hhas => clone_queue _ cf.pq cf.cq cf.qs (Frm.has_mono hq hle) (by omega)) rfl (fun v K hR => ?_)
          obtain ⟨pqn, cqn, rfl, rfl⟩ := hR
          refine Sl.G.app (.c .n) ?_
          refine Sl.G.ro (Sl.RO.rd (Sl.RO.fieldAddr rfl fo_65_1)) rfl ?_
          refine Sl.G.store rfl rfl rfl rfl ly_63 rfl (.t (.t (.t (.t (.t (.t (.t (.t (.t (.t (.t (.t (.t (.t (.t (.t (.t (.t (.t (.t .h)))))))))))))))))))) rfl ?_
          refine Sl.G.nil ?_
          refine Sl.Post.thenN ?_
          refine Sl.Tr.seq ?_
          have hal := goodC_len hgc
          have hac' : acs.map AccV.pure = (cf.qs.map (·.quota)).map (fun u => (u, ⟨0, 0⟩)) := by rw [← hqu]; exact hac
          have hgood : cf.good = true := by
            obtain ⟨h1, h2, h3⟩ := hqg
            have h4 := hlg.2
            rw [hro] at h1 h2 h3
            rw [hqu] at h4
            have h5 : goodRooms (cf.qs.map (·.room)) = true := by
              simp only [goodRooms, Bool.and_eq_true, decide_eq_true_eq, Bool.not_eq_true']
              exact ⟨⟨h1, h2⟩, h3⟩
            simp only [ConfV.good, hgc, hw, ht, hr, ha, h5, h4, Bool.and_self]
          refine Sl.Tr.freeze (.t (.t (.t (.t (.t (.t (.t (.t (.t (.t (.t (.t (.t (.t (.t (.t (.t (.t (.t (.t .h)))))))))))))))))))) (fun G22 hle22 hfz22 back22 thaw22 => ?_)
          have hq_22 := Sl.Frm.has_mono hq hle22
          refine Sl.Tr.draw (fuel := 14) (listed := [false, false, false, false, false, false, false, false, false, false, false, false, false, false]) mixed rfl rfl ?_
          refine Sl.GD.take (i := 0) rfl rfl rfl (Sl.RO.load rfl hfz22 ly_65 rfl) rfl ?_
          refine Sl.GD.take (i := 1) rfl rfl rfl (Sl.RO.move rfl) rfl ?_
          refine Sl.GD.take (i := 4) rfl rfl rfl (Sl.RO.move rfl) rfl ?_
          refine Sl.GD.take (i := 5) rfl rfl rfl (Sl.RO.move rfl) rfl ?_
          refine Sl.GD.take (i := 7) rfl rfl rfl (Sl.RO.fieldAddr rfl fo_65_2) rfl ?_
          refine Sl.GD.take (i := 8) rfl rfl rfl (Sl.RO.load1 rfl hfz22 ly_3 rfl) rfl ?_
          have hwk : cf.workers = ((cf.workers.toNat : Nat) : Int) := by simp only [inB, decide_eq_true_eq] at hw; omega
          have hwk2 : cf.workers.toNat ≤ 4 := by simp only [inB, decide_eq_true_eq] at hw; omega
          refine Sl.GD.as 92 (.int .i64 ((cf.workers.toNat : Nat) : Int)) rfl (by rw [← hwk]) ?_
          refine Sl.GD.of2 (i := 2) (j := 9) rfl ?_ ?_
          · refine Sl.GD1.call rfl rfl rfl rfl .n (.c .n) .n (fun G' hle hhas => topo_All _ bt pt' ct _ _ _ (hhas _ (List.Mem.tail _ (List.Mem.tail _ (List.Mem.tail _ (List.Mem.tail _ (List.Mem.tail _ (List.Mem.tail _ (List.Mem.tail _ (List.Mem.tail _ (List.Mem.tail _ (List.Mem.tail _ (List.Mem.tail _ (List.Mem.tail _ (List.Mem.tail _ (List.Mem.tail _ (List.Mem.tail _ (List.Mem.tail _ (List.Mem.tail _ (List.Mem.head _))))))))))))))))))) (hhas _ (List.Mem.tail _ (List.Mem.tail _ (List.Mem.tail _ (List.Mem.tail _ (List.Mem.tail _ (List.Mem.tail _ (List.Mem.tail _ (List.Mem.tail _ (List.Mem.tail _ (List.Mem.tail _ (List.Mem.tail _ (List.Mem.tail _ (List.Mem.tail _ (List.Mem.tail _ (List.Mem.tail _ (List.Mem.tail _ (List.Mem.tail _ (List.Mem.tail _ (List.Mem.head _)))))))))))))))))))) (by omega)) rfl (fun v K hR => ?_)
            obtain ⟨qa1, rfl, rfl⟩ := hR
            refine Sl.GD.app (.c .n) ?_
            refine Sl.GD.of2 (i := 3) (j := 9) rfl ?_ ?_
            · refine Sl.GD1.call rfl rfl rfl rfl .n .n .n (fun G' hle hhas => gang_New _) rfl (fun v K hR => ?_)
              obtain ⟨bg, cg, rfl, rfl⟩ := hR
              refine Sl.GD.app (.c (.c .n)) ?_
              refine Sl.GD.of2 (i := 6) (j := 9) rfl ?_ ?_
              · refine Sl.GD1.call rfl rfl rfl rfl .n .n .n (fun G' hle hhas => timer_New _) rfl (fun v K hR => ?_)
                obtain ⟨btm, ctm, rfl, rfl⟩ := hR
                refine Sl.GD.app (.c (.c .n)) ?_
                refine Sl.GD.makeSlice (i := 9) (en := intE) ((0 : Int)) intE.el rfl rfl rfl rfl rfl ap_120 rfl rfl (by omega) rfl (fun ws wsn => ?_)
                refine Sl.GD.take (i := 10) rfl rfl rfl (Sl.RO.build pl_136 zv_136 rfl rfl) rfl ?_
                refine Sl.GD.acts (i := 11) rfl rfl rfl (Sl.Acts.box rfl rfl) rfl (fun _ _ hx => ?_) (fun _ hx => by obtain ⟨_, hx, _⟩ := hx; cases hx)
                (obtain ⟨b23, hv, rfl⟩ := hx; cases hv)
                refine Sl.GD.take (i := 12) rfl rfl rfl (Sl.RO.assign rfl) rfl ?_
                refine Sl.GD.take (i := 13) rfl rfl rfl (Sl.RO.assign rfl) rfl ?_
                refine Sl.GD.done rfl (back22 _ _ _ _ _ _ ?_)
                refine Sl.Post.thenN ?_
                refine Sl.Tr.ret ?_
                refine Sl.Post.fin rfl (.tmp rfl (.tmp rfl .nil)) rfl (.p (.t .h) (.p (.t (.t (.t (.t (.t (.t .h)))))) (.p (.t (.t (.t (.t .h)))) (.p (.t (.t (.t (.t .h)))) (.p (.t (.t (.t (.t (.t (.t (.t (.t (.t (.t (.t (.t (.t (.t (.t (.t .h)))))))))))))))) (.p (.t (.t (.t (.t (.t (.t (.t (.t (.t (.t (.t (.t (.t (.t (.t (.t .h)))))))))))))))) (.p (.t (.t (.t (.t (.t (.t (.t (.t (.t (.t (.t (.t (.t (.t (.t (.t .h)))))))))))))))) (.p (.t (.t (.t (.t (.t .h))))) (.p (.t (.t (.t (.t (.t .h))))) (.p (.t (.t (.t (.t (.t .h))))) (.p (.t (.t (.t (.t (.t .h))))) (.p (.t (.t (.t (.t (.t .h))))) (.p (.t (.t (.t (.t (.t .h))))) (.p (.t (.t (.t (.t (.t .h))))) (.p (.t (.t (.t (.t (.t .h))))) (.p (.t (.t (.t (.t (.t .h))))) (.p (.t (.t (.t (.t (.t .h))))) (.p (.t (.t (.t (.t (.t .h))))) (.p (.t (.t .h)) (.p (.t (.t .h)) (.p (.t .h) (.p (.t .h) .n)))))))))))))))))))))) ?_ (.inl rfl)
                rw [if_pos hgood]
                refine ⟨SysA.mk b23 bg cg bq bl mh bp bt2 mi2 md ba btm ctm qa1 pw pm pt2 q2 qa ws pqn cm ct2 ea cqn acs, rfl, hac', ?_⟩
                rw [hro, List.length_map]
                rfl
              · refine Sl.GD1.makeSlice (en := intE) ((0 : Int)) intE.el rfl rfl rfl rfl ap_120 rfl rfl (by omega) rfl (fun ws wsn => ?_)
                refine Sl.GD.call (i := 6) rfl rfl rfl rfl rfl .n .n .n (fun G' hle hhas => timer_New _) rfl (fun v K hR => ?_)
                obtain ⟨btm, ctm, rfl, rfl⟩ := hR
                refine Sl.GD.app (.c (.c .n)) ?_
                refine Sl.GD.take (i := 10) rfl rfl rfl (Sl.RO.build pl_136 zv_136 rfl rfl) rfl ?_
                refine Sl.GD.acts (i := 11) rfl rfl rfl (Sl.Acts.box rfl rfl) rfl (fun _ _ hx => ?_) (fun _ hx => by obtain ⟨_, hx, _⟩ := hx; cases hx)
                (obtain ⟨b24, hv, rfl⟩ := hx; cases hv)
                refine Sl.GD.take (i := 12) rfl rfl rfl (Sl.RO.assign rfl) rfl ?_
                refine Sl.GD.take (i := 13) rfl rfl rfl (Sl.RO.assign rfl) rfl ?_
                refine Sl.GD.done rfl (back22 _ _ _ _ _ _ ?_)
                refine Sl.Post.thenN ?_
                refine Sl.Tr.ret ?_
                refine Sl.Post.fin rfl (.tmp rfl (.tmp rfl .nil)) rfl (.p (.t .h) (.p (.t (.t (.t (.t (.t (.t .h)))))) (.p (.t (.t (.t (.t .h)))) (.p (.t (.t (.t (.t .h)))) (.p (.t (.t (.t (.t (.t (.t (.t (.t (.t (.t (.t (.t (.t (.t (.t (.t .h)))))))))))))))) (.p (.t (.t (.t (.t (.t (.t (.t (.t (.t (.t (.t (.t (.t (.t (.t (.t .h)))))))))))))))) (.p (.t (.t (.t (.t (.t (.t (.t (.t (.t (.t (.t (.t (.t (.t (.t (.t .h)))))))))))))))) (.p (.t (.t (.t (.t (.t .h))))) (.p (.t (.t (.t (.t (.t .h))))) (.p (.t (.t (.t (.t (.t .h))))) (.p (.t (.t (.t (.t (.t .h))))) (.p (.t (.t (.t (.t (.t .h))))) (.p (.t (.t (.t (.t (.t .h))))) (.p (.t (.t (.t (.t (.t .h))))) (.p (.t (.t (.t (.t (.t .h))))) (.p (.t (.t (.t (.t (.t .h))))) (.p (.t (.t (.t (.t (.t .h))))) (.p (.t (.t (.t (.t (.t .h))))) (.p (.t .h) (.p (.t .h) (.p (.t .h) (.p (.t .h) .n)))))))))))))))))))))) ?_ (.inl rfl)
                rw [if_pos hgood]
                refine ⟨SysA.mk b24 bg cg bq bl mh bp bt2 mi2 md ba btm ctm qa1 pw pm pt2 q2 qa ws pqn cm ct2 ea cqn acs, rfl, hac', ?_⟩
                rw [hro, List.length_map]
                rfl
            · refine Sl.GD1.makeSlice (en := intE) ((0 : Int)) intE.el rfl rfl rfl rfl ap_120 rfl rfl (by omega) rfl (fun ws wsn => ?_)
              refine Sl.GD.call (i := 3) rfl rfl rfl rfl rfl .n .n .n (fun G' hle hhas => gang_New _) rfl (fun v K hR => ?_)
              obtain ⟨bg, cg, rfl, rfl⟩ := hR
              refine Sl.GD.app (.c (.c .n)) ?_
              refine Sl.GD.call (i := 6) rfl rfl rfl rfl rfl .n .n .n (fun G' hle hhas => timer_New _) rfl (fun v K hR => ?_)
              obtain ⟨btm, ctm, rfl, rfl⟩ := hR
              refine Sl.GD.app (.c (.c .n)) ?_
              refine Sl.GD.take (i := 10) rfl rfl rfl (Sl.RO.build pl_136 zv_136 rfl rfl) rfl ?_
              refine Sl.GD.acts (i := 11) rfl rfl rfl (Sl.Acts.box rfl rfl) rfl (fun _ _ hx => ?_) (fun _ hx => by obtain ⟨_, hx, _⟩ := hx; cases hx)
              (obtain ⟨b25, hv, rfl⟩ := hx; cases hv)
              refine Sl.GD.take (i := 12) rfl rfl rfl (Sl.RO.assign rfl) rfl ?_
              refine Sl.GD.take (i := 13) rfl rfl rfl (Sl.RO.assign rfl) rfl ?_
              refine Sl.GD.done rfl (back22 _ _ _ _ _ _ ?_)
              refine Sl.Post.thenN ?_
              refine Sl.Tr.ret ?_
              refine Sl.Post.fin rfl (.tmp rfl (.tmp rfl .nil)) rfl (.p (.t .h) (.p (.t (.t (.t (.t (.t (.t .h)))))) (.p (.t (.t (.t .h))) (.p (.t (.t (.t .h))) (.p (.t (.t (.t (.t (.t (.t (.t (.t (.t (.t (.t (.t (.t (.t (.t (.t .h)))))))))))))))) (.p (.t (.t (.t (.t (.t (.t (.t (.t (.t (.t (.t (.t (.t (.t (.t (.t .h)))))))))))))))) (.p (.t (.t (.t (.t (.t (.t (.t (.t (.t (.t (.t (.t (.t (.t (.t (.t .h)))))))))))))))) (.p (.t (.t (.t (.t (.t .h))))) (.p (.t (.t (.t (.t (.t .h))))) (.p (.t (.t (.t (.t (.t .h))))) (.p (.t (.t (.t (.t (.t .h))))) (.p (.t (.t (.t (.t (.t .h))))) (.p (.t (.t (.t (.t (.t .h))))) (.p (.t (.t (.t (.t (.t .h))))) (.p (.t (.t (.t (.t (.t .h))))) (.p (.t (.t (.t (.t (.t .h))))) (.p (.t (.t (.t (.t (.t .h))))) (.p (.t (.t (.t (.t (.t .h))))) (.p (.t .h) (.p (.t .h) (.p (.t .h) (.p (.t .h) .n)))))))))))))))))))))) ?_ (.inl rfl)
              rw [if_pos hgood]
              refine ⟨SysA.mk b25 bg cg bq bl mh bp bt2 mi2 md ba btm ctm qa1 pw pm pt2 q2 qa ws pqn cm ct2 ea cqn acs, rfl, hac', ?_⟩
              rw [hro, List.length_map]
              rfl
          · refine Sl.GD1.makeSlice (en := intE) ((0 : Int)) intE.el rfl rfl rfl rfl ap_120 rfl rfl (by omega) rfl (fun ws wsn => ?_)
            refine Sl.GD.call (i := 2) rfl rfl rfl rfl rfl .n (.c .n) .n (fun G' hle hhas => topo_All _ bt pt' ct _ _ _ (hhas _ (List.Mem.tail _ (List.Mem.tail _ (List.Mem.tail _ (List.Mem.tail _ (List.Mem.tail _ (List.Mem.tail _ (List.Mem.tail _ (List.Mem.tail _ (List.Mem.tail _ (List.Mem.tail _ (List.Mem.tail _ (List.Mem.tail _ (List.Mem.tail _ (List.Mem.tail _ (List.Mem.tail _ (List.Mem.tail _ (List.Mem.tail _ (List.Mem.tail _ (List.Mem.head _)))))))))))))))))))) (hhas _ (List.Mem.tail _ (List.Mem.tail _ (List.Mem.tail _ (List.Mem.tail _ (List.Mem.tail _ (List.Mem.tail _ (List.Mem.tail _ (List.Mem.tail _ (List.Mem.tail _ (List.Mem.tail _ (List.Mem.tail _ (List.Mem.tail _ (List.Mem.tail _ (List.Mem.tail _ (List.Mem.tail _ (List.Mem.tail _ (List.Mem.tail _ (List.Mem.tail _ (List.Mem.tail _ (List.Mem.head _))))))))))))))))))))) (by omega)) rfl (fun v K hR => ?_)
            obtain ⟨qa1, rfl, rfl⟩ := hR
            refine Sl.GD.app (.c .n) ?_
            refine Sl.GD.call (i := 3) rfl rfl rfl rfl rfl .n .n .n (fun G' hle hhas => gang_New _) rfl (fun v K hR => ?_)
            obtain ⟨bg, cg, rfl, rfl⟩ := hR
            refine Sl.GD.app (.c (.c .n)) ?_
            refine Sl.GD.call (i := 6) rfl rfl rfl rfl rfl .n .n .n (fun G' hle hhas => timer_New _) rfl (fun v K hR => ?_)
            obtain ⟨btm, ctm, rfl, rfl⟩ := hR
            refine Sl.GD.app (.c (.c .n)) ?_
            refine Sl.GD.take (i := 10) rfl rfl rfl (Sl.RO.build pl_136 zv_136 rfl rfl) rfl ?_
            refine Sl.GD.acts (i := 11) rfl rfl rfl (Sl.Acts.box rfl rfl) rfl (fun _ _ hx => ?_) (fun _ hx => by obtain ⟨_, hx, _⟩ := hx; cases hx)
            (obtain ⟨b26, hv, rfl⟩ := hx; cases hv)
            refine Sl.GD.take (i := 12) rfl rfl rfl (Sl.RO.assign rfl) rfl ?_
            refine Sl.GD.take (i := 13) rfl rfl rfl (Sl.RO.assign rfl) rfl ?_
            refine Sl.GD.done rfl (back22 _ _ _ _ _ _ ?_)
            refine Sl.Post.thenN ?_
            refine Sl.Tr.ret ?_
            refine Sl.Post.fin rfl (.tmp rfl (.tmp rfl .nil)) rfl (.p (.t .h) (.p (.t (.t (.t (.t (.t .h))))) (.p (.t (.t (.t .h))) (.p (.t (.t (.t .h))) (.p (.t (.t (.t (.t (.t (.t (.t (.t (.t (.t (.t (.t (.t (.t (.t (.t .h)))))))))))))))) (.p (.t (.t (.t (.t (.t (.t (.t (.t (.t (.t (.t (.t (.t (.t (.t (.t .h)))))))))))))))) (.p (.t (.t (.t (.t (.t (.t (.t (.t (.t (.t (.t (.t (.t (.t (.t (.t .h)))))))))))))))) (.p (.t (.t (.t (.t (.t .h))))) (.p (.t (.t (.t (.t (.t .h))))) (.p (.t (.t (.t (.t (.t .h))))) (.p (.t (.t (.t (.t (.t .h))))) (.p (.t (.t (.t (.t (.t .h))))) (.p (.t (.t (.t (.t (.t .h))))) (.p (.t (.t (.t (.t (.t .h))))) (.p (.t (.t (.t (.t (.t .h))))) (.p (.t (.t (.t (.t (.t .h))))) (.p (.t (.t (.t (.t (.t .h))))) (.p (.t (.t (.t (.t (.t .h))))) (.p (.t .h) (.p (.t .h) (.p (.t .h) (.p (.t .h) .n)))))))))))))))))))))) ?_ (.inl rfl)
            rw [if_pos hgood]
            refine ⟨SysA.mk b26 bg cg bq bl mh bp bt2 mi2 md ba btm ctm qa1 pw pm pt2 q2 qa ws pqn cm ct2 ea cqn acs, rfl, hac', ?_⟩
            rw [hro, List.length_map]
            rfl
        · rw [if_neg hlg] at hR
          obtain ⟨rfl, rfl⟩ := hR
          refine Sl.G.app .n ?_
          refine Sl.G.ro (Sl.RO.rd (Sl.RO.move rfl)) rfl ?_
          refine Sl.G.ro (Sl.RO.rd (Sl.RO.extractL rfl rfl)) rfl ?_
          refine Sl.G.ro (Sl.RO.rd (Sl.RO.extractL rfl rfl)) rfl ?_
          refine Sl.G.ro (Sl.RO.rd (Sl.RO.assign rfl)) rfl ?_
          refine Sl.G.ro (Sl.RO.rd (Sl.RO.assign rfl)) rfl ?_
          refine Sl.G.nil ?_
          refine Sl.Post.thenN ?_
          refine Sl.Tr.seq ?_
          refine Sl.Tr.seq ?_
          refine Sl.Tr.region ?_
          refine Sl.G.ro (Sl.RO.rd (Sl.RO.move rfl)) rfl ?_
          refine Sl.G.ro (Sl.RO.rd (Sl.RO.nT (Sl.RO.neq rfl rfl) (by decide))) rfl ?_
          refine Sl.G.nil ?_
          refine Sl.Post.thenN ?_
          refine Sl.Tr.condT rfl ?_
          refine Sl.Tr.seq ?_
          refine Sl.Tr.region ?_
          refine Sl.G.ro (Sl.RO.rd (Sl.RO.move rfl)) rfl ?_
          refine Sl.G.ro (Sl.RO.rd (Sl.RO.assign rfl)) rfl ?_
          refine Sl.G.ro (Sl.RO.rd (Sl.RO.assign rfl)) rfl ?_
          refine Sl.G.nil ?_
          refine Sl.Post.thenN ?_
          refine Sl.Tr.ret ?_
          refine Sl.Post.thenR ?_
          refine Sl.Post.fin rfl (.tmp rfl (.tmp rfl .nil)) rfl .n ?_ (.inl rfl)
          have hng : goodQ (cf.qs.map (·.quota)) = false := by
            have h2 : ¬ goodQ qu = true := fun h => hlg ⟨hgc, h⟩
            rw [hqu] at h2
            simpa using h2
          rw [if_neg (by simp only [ConfV.good, hng, Bool.and_false]; decide)]
          exact ⟨rfl, rfl⟩
      · rw [if_neg hqg] at hR
        obtain ⟨rfl, rfl⟩ := hR
        refine Sl.G.app .n ?_
        refine Sl.G.ro (Sl.RO.rd (Sl.RO.move rfl)) rfl ?_
        refine Sl.G.ro (Sl.RO.rd (Sl.RO.extractL rfl rfl)) rfl ?_
        refine Sl.G.ro (Sl.RO.rd (Sl.RO.extractL rfl rfl)) rfl ?_
        refine Sl.G.ro (Sl.RO.rd (Sl.RO.assign rfl)) rfl ?_
        refine Sl.G.ro (Sl.RO.rd (Sl.RO.assign rfl)) rfl ?_
        refine Sl.G.nil ?_
        refine Sl.Post.thenN ?_
        refine Sl.Tr.seq ?_
        refine Sl.Tr.seq ?_
        refine Sl.Tr.region ?_
        refine Sl.G.ro (Sl.RO.rd (Sl.RO.move rfl)) rfl ?_
        refine Sl.G.ro (Sl.RO.rd (Sl.RO.nT (Sl.RO.neq rfl rfl) (by decide))) rfl ?_
        refine Sl.G.nil ?_
        refine Sl.Post.thenN ?_
        refine Sl.Tr.condT rfl ?_
        refine Sl.Tr.seq ?_
        refine Sl.Tr.region ?_
        refine Sl.G.ro (Sl.RO.rd (Sl.RO.move rfl)) rfl ?_
        refine Sl.G.ro (Sl.RO.rd (Sl.RO.assign rfl)) rfl ?_
        refine Sl.G.ro (Sl.RO.rd (Sl.RO.assign rfl)) rfl ?_
        refine Sl.G.nil ?_
        refine Sl.Post.thenN ?_
        refine Sl.Tr.ret ?_
        refine Sl.Post.thenR ?_
        refine Sl.Post.fin rfl (.tmp rfl (.tmp rfl .nil)) rfl .n ?_ (.inl rfl)
        have hng : goodRooms (cf.qs.map (·.room)) = false := by
          rw [← hro]
          simp only [goodRooms, Bool.and_eq_false_iff, decide_eq_false_iff_not, Bool.not_eq_false']
          rcases Nat.lt_or_ge ro.length 1 with h | h
          · left; omega
          · rcases Nat.lt_or_ge 8 ro.length with h8 | h8
            · left; omega
            · right
              cases hx : ro.any badRoom with
              | true => rfl
              | false => exact absurd ⟨h, h8, hx⟩ hqg
        rw [if_neg (by simp only [ConfV.good, hng, Bool.and_false, Bool.false_and]; decide)]
        exact ⟨rfl, rfl⟩
  · rw [if_neg hgc] at hR
    obtain ⟨rfl, rfl⟩ := hR
    refine Sl.G.app .n ?_
    refine Sl.G.ro (Sl.RO.rd (Sl.RO.move rfl)) rfl ?_
    refine Sl.G.ro (Sl.RO.rd (Sl.RO.extractL rfl rfl)) rfl ?_
    refine Sl.G.ro (Sl.RO.rd (Sl.RO.extractL rfl rfl)) rfl ?_
    refine Sl.G.ro (Sl.RO.rd (Sl.RO.assign rfl)) rfl ?_
    refine Sl.G.ro (Sl.RO.rd (Sl.RO.assign rfl)) rfl ?_
    refine Sl.G.nil ?_
    refine Sl.Post.thenN ?_
    refine Sl.Tr.seq ?_
    refine Sl.Tr.seq ?_
    refine Sl.Tr.region ?_
    refine Sl.G.ro (Sl.RO.rd (Sl.RO.move rfl)) rfl ?_
    refine Sl.G.ro (Sl.RO.rd (Sl.RO.nT (Sl.RO.neq rfl rfl) (by decide))) rfl ?_
    refine Sl.G.ro (Sl.RO.rd (Sl.RO.move rfl)) rfl ?_
    refine Sl.G.pass rfl rfl ?_
    refine Sl.G.pass rfl rfl ?_
    refine Sl.G.pass rfl rfl ?_
    refine Sl.G.pass rfl rfl ?_
    refine Sl.G.ro (Sl.RO.rd (Sl.RO.pickT rfl rfl)) rfl ?_
    refine Sl.G.ro (Sl.RO.rd (Sl.RO.move rfl)) rfl ?_
    refine Sl.G.pass rfl rfl ?_
    refine Sl.G.pass rfl rfl ?_
    refine Sl.G.pass rfl rfl ?_
    refine Sl.G.pass rfl rfl ?_
    refine Sl.G.ro (Sl.RO.rd (Sl.RO.pickT rfl rfl)) rfl ?_
    refine Sl.G.ro (Sl.RO.rd (Sl.RO.move rfl)) rfl ?_
    refine Sl.G.pass rfl rfl ?_
    refine Sl.G.pass rfl rfl ?_
    refine Sl.G.pass rfl rfl ?_
    refine Sl.G.pass rfl rfl ?_
    refine Sl.G.ro (Sl.RO.rd (Sl.RO.pickT rfl rfl)) rfl ?_
    refine Sl.G.ro (Sl.RO.rd (Sl.RO.move rfl)) rfl ?_
    refine Sl.G.pass rfl rfl ?_
    refine Sl.G.pass rfl rfl ?_
    refine Sl.G.pass rfl rfl ?_
    refine Sl.G.pass rfl rfl ?_
    refine Sl.G.ro (Sl.RO.rd (Sl.RO.pickT rfl rfl)) rfl ?_
    refine Sl.G.nil ?_
    refine Sl.Post.thenN ?_
    refine Sl.Tr.condT rfl ?_
    refine Sl.Tr.seq ?_
    refine Sl.Tr.region ?_
    refine Sl.G.ro (Sl.RO.rd (Sl.RO.assign rfl)) rfl ?_
    refine Sl.G.ro (Sl.RO.rd (Sl.RO.assign rfl)) rfl ?_
    refine Sl.G.nil ?_
    refine Sl.Post.thenN ?_
    refine Sl.Tr.ret ?_
    refine Sl.Post.thenR ?_
    refine Sl.Post.fin rfl (.tmp rfl (.tmp rfl .nil)) rfl .n ?_ (.inl rfl)
    rw [if_neg (by simp [ConfV.good, hgc])]
    exact ⟨rfl, rfl⟩
end Go.Proofs.YtcaojfapibkplaaGreatDoor
