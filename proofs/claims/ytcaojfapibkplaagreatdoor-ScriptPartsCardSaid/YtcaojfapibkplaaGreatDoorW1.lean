/- What the functions that write, read and compare replies compute. -/
import Derived.Test.YtcaojfapibkplaaGreatDoorE4
import Derived.Test.YtcaojfapibkplaaGreatDoorF
namespace Go.Proofs.YtcaojfapibkplaaGreatDoor
open Go Go.Sl Go.En

theorem xo_336 {κ : List (Nat × Value)} {F : Frm} {x : Operand} {v : Value} {ats : Array TypeId} (hx : ev κ x = some v) : RO Tryz.prog κ F (.call { callee := .value (.func 26), args := #[x], argTypes := ats }) v :=
  RO.noEscape hx Tryz.func26 (by kernel_rfl) (by kernel_rfl) (by kernel_rfl) (by kernel_rfl)

theorem copyCheck (F : Frm) (b : Nat) (q : Option Addr) (v : Value) (hq : q = none ∨ q = some ⟨b, 0, none⟩) :
    FnOk Tryz.prog 21 [.pointer (some ⟨b, 0, none⟩)] [pt b (cl [.pointer q, v] 45)] F (fun r H => r = .tuple #[] ∧ H = [pt b (cl [.pointer (some ⟨b, 0, none⟩), v] 45)]) := by
  rcases hq with rfl | rfl
  · refine Sl.FnOk.of (κ := [(0, _)]) Go.Proofs.Tryz.func21 rfl rfl Go.Proofs.Tryz.ntmps21 rfl rfl ?_
    refine Sl.Tr.seq ?_
    refine Sl.Tr.region ?_
    refine Sl.G.ro (Sl.RO.rd (Sl.RO.move rfl)) rfl ?_
    refine Sl.G.ro (Sl.RO.rd (Sl.RO.nilCheck rfl)) rfl ?_
    refine Sl.G.ro (Sl.RO.rd (Sl.RO.fieldAddr rfl fo_45_0)) rfl ?_
    refine Sl.G.ro (Sl.RD.load1 rfl .h ly_42 rfl) rfl ?_
    refine Sl.G.ro (Sl.RO.rd (Sl.RO.eqlPtrT rfl rfl pr_42)) rfl ?_
    refine Sl.G.nil ?_
    refine Sl.Post.thenN ?_
    refine Sl.Tr.condT rfl ?_
    refine Sl.Tr.region ?_
    refine Sl.G.ro (Sl.RO.rd (Sl.RO.move rfl)) rfl ?_
    refine Sl.G.ro (Sl.RO.rd (Sl.RO.move rfl)) rfl ?_
    refine Sl.G.ro (Sl.RD.toUnsafe rfl pr_42 un_84 sz_45 .h (by simp only [List.length_cons, List.length_nil]; omega)) rfl ?_
    refine Sl.G.ro (Sl.RO.rd (xo_336 rfl)) rfl ?_
    refine Sl.G.ro (Sl.RD.fromUnsafe rfl un_84 pr_42 sz_45 .h (by kernel_rfl)) rfl ?_
    refine Sl.G.ro (Sl.RO.rd (Sl.RO.nilCheck rfl)) rfl ?_
    refine Sl.G.ro (Sl.RO.rd (Sl.RO.fieldAddr rfl fo_45_0)) rfl ?_
    refine Sl.G.store rfl rfl rfl rfl ly_42 rfl .h rfl ?_
    refine Sl.G.nil ?_
    refine Sl.Post.fin rfl .nil rfl (.p .h .n) ?_ (.inr rfl)
    exact ⟨rfl, rfl⟩
  · refine Sl.FnOk.of (κ := [(0, _)]) Go.Proofs.Tryz.func21 rfl rfl Go.Proofs.Tryz.ntmps21 rfl rfl ?_
    refine Sl.Tr.seq ?_
    refine Sl.Tr.region ?_
    refine Sl.G.ro (Sl.RO.rd (Sl.RO.move rfl)) rfl ?_
    refine Sl.G.ro (Sl.RO.rd (Sl.RO.nilCheck rfl)) rfl ?_
    refine Sl.G.ro (Sl.RO.rd (Sl.RO.fieldAddr rfl fo_45_0)) rfl ?_
    refine Sl.G.ro (Sl.RD.load1 rfl .h ly_42 rfl) rfl ?_
    refine Sl.G.ro (Sl.RO.rd (Sl.RO.eqlPtrF rfl rfl pr_42)) rfl ?_
    refine Sl.G.nil ?_
    refine Sl.Post.thenN ?_
    refine Sl.Tr.condF rfl ?_
    refine Sl.Tr.seq ?_
    refine Sl.Tr.region ?_
    refine Sl.G.ro (Sl.RO.rd (Sl.RO.move rfl)) rfl ?_
    refine Sl.G.ro (Sl.RO.rd (Sl.RO.nilCheck rfl)) rfl ?_
    refine Sl.G.ro (Sl.RO.rd (Sl.RO.fieldAddr rfl fo_45_0)) rfl ?_
    refine Sl.G.ro (Sl.RD.load1 rfl .h ly_42 rfl) rfl ?_
    refine Sl.G.ro (Sl.RO.rd (Sl.RO.move rfl)) rfl ?_
    refine Sl.G.ro (Sl.RO.rd (Sl.RO.neqPtrSame rfl rfl pr_42 sz_45)) rfl ?_
    refine Sl.G.nil ?_
    refine Sl.Post.thenN ?_
    refine Sl.Tr.condF rfl ?_
    refine Sl.Tr.skip ?_
    refine Sl.Post.fin rfl .nil rfl (.p .h .n) ?_ (.inr rfl)
    exact ⟨rfl, rfl⟩

theorem writeByte (F : Frm) (b : Nat) (q p : Option Addr) (cp : Nat) (l : List UInt8) (x : UInt8) (hq : q = none ∨ q = some ⟨b, 0, none⟩) (hl : l.length ≤ 1000000) :
    FnOk Tryz.prog 14 [.pointer (some ⟨b, 0, none⟩), .int .u8 x.toNat] [pt b (cl [.pointer q, .slice p l.length cp] 45), sA 5 1 by8 p cp l] F
      (fun r H => r = .nilIface ∧ ∃ p' c', H = [pt b (cl [.pointer (some ⟨b, 0, none⟩), .slice p' (l ++ [x]).length c'] 45), sA 5 1 by8 p' c' (l ++ [x])]) := by
  refine Sl.FnOk.of (κ := [(0, _), (1, _)]) Go.Proofs.Tryz.func14 rfl rfl Go.Proofs.Tryz.ntmps14 rfl rfl ?_
  refine Sl.Tr.seq ?_
  refine Sl.Tr.region ?_
  refine Sl.G.ro (Sl.RO.rd (Sl.RO.assign rfl)) rfl ?_
  refine Sl.G.nil ?_
  refine Sl.Post.thenN ?_
  refine Sl.Tr.seq ?_
  refine Sl.Tr.region ?_
  refine Sl.G.ro (Sl.RO.rd (Sl.RO.move rfl)) rfl ?_
  refine Sl.G.call rfl rfl .n (.c .n) (.p .h .n) (fun G' hle hhas => copyCheck _ b q _ hq) rfl (fun v K hR => ?_)
  obtain ⟨rfl, rfl⟩ := hR
  refine Sl.G.app (.c .n) ?_
  refine Sl.G.nil ?_
  refine Sl.Post.thenN ?_
  refine Sl.Tr.seq ?_
  refine Sl.Tr.region ?_
  refine Sl.G.ro (Sl.RO.rd (Sl.RO.move rfl)) rfl ?_
  refine Sl.G.ro (Sl.RO.rd (Sl.RO.move rfl)) rfl ?_
  refine Sl.G.ro (Sl.RO.rd (Sl.RO.nilCheck rfl)) rfl ?_
  refine Sl.G.ro (Sl.RO.rd (Sl.RO.fieldAddr rfl fo_45_1)) rfl ?_
  refine Sl.G.ro (Sl.RD.load1 rfl .h ly_43 rfl) rfl ?_
  refine Sl.G.ro (Sl.RO.rd (Sl.RO.move rfl)) rfl ?_
  refine Sl.G.buildSlice ap_43 rfl rfl rfl rfl rfl (fun b0 => ?_)
  refine Sl.G.append1 (x) Go.Sl.by8.el rfl rfl ap_43 rfl (.t (.t .h)) (by omega) .h rfl rfl (fun p1 c2 => ?_)
  refine Sl.G.ro (Sl.RO.rd (Sl.RO.nilCheck rfl)) rfl ?_
  refine Sl.G.ro (Sl.RO.rd (Sl.RO.fieldAddr rfl fo_45_1)) rfl ?_
  refine Sl.G.store rfl rfl rfl rfl ly_43 rfl (.t .h) rfl ?_
  refine Sl.G.nil ?_
  refine Sl.Post.thenN ?_
  refine Sl.Tr.seq ?_
  refine Sl.Tr.region ?_
  refine Sl.G.ro (Sl.RO.rd (Sl.RO.assign rfl)) rfl ?_
  refine Sl.G.nil ?_
  refine Sl.Post.thenN ?_
  refine Sl.Tr.ret ?_
  refine Sl.Post.fin rfl (.tmp rfl .nil) rfl (.p (.t .h) (.p .h .n)) ?_ (.inl rfl)
  exact ⟨rfl, _, _, rfl⟩

theorem bString (F : Frm) (b : Nat) (q p : Option Addr) (cp : Nat) (l : List UInt8) (hl : l.length ≤ 1000000) (hp : l = [] → p = none) :
    FnOk Tryz.prog 16 [.pointer (some ⟨b, 0, none⟩)] [pt b (cl [.pointer q, .slice p l.length cp] 45), sA 5 1 by8 p cp l] F (fun r H => r = str l ∧ H = []) := by
  rcases Nat.eq_zero_or_pos l.length with h0 | h0
  · have h1 := List.eq_nil_of_length_eq_zero h0
    subst h1
    have h2 := hp rfl
    subst h2
    refine Sl.FnOk.of (κ := [(0, _)]) Go.Proofs.Tryz.func16 rfl rfl Go.Proofs.Tryz.ntmps16 rfl rfl ?_
    refine Sl.Tr.seq ?_
    refine Sl.Tr.region ?_
    refine Sl.G.ro (Sl.RO.rd (Sl.RO.assign rfl)) rfl ?_
    refine Sl.G.nil ?_
    refine Sl.Post.thenN ?_
    refine Sl.Tr.seq ?_
    refine Sl.Tr.draw (fuel := 12) (listed := [false, false, false, false, false, false, false, false, false, false, false, false]) mixed rfl rfl ?_
    refine Sl.GD.take (i := 0) rfl rfl rfl (Sl.RO.move rfl) rfl ?_
    refine Sl.GD.take (i := 1) rfl rfl rfl (Sl.RO.nilCheck rfl) rfl ?_
    refine Sl.GD.take (i := 2) rfl rfl rfl (Sl.RO.fieldAddr rfl fo_45_1) rfl ?_
    refine Sl.GD.take (i := 5) rfl rfl rfl (Sl.RO.move rfl) rfl ?_
    refine Sl.GD.take (i := 6) rfl rfl rfl (Sl.RO.nilCheck rfl) rfl ?_
    refine Sl.GD.take (i := 7) rfl rfl rfl (Sl.RO.fieldAddr rfl fo_45_1) rfl ?_
    refine Sl.GD.rd2 (i := 3) (j := 8) rfl rfl rfl rfl rfl (Sl.RD.load1 rfl .h ly_43 rfl) (Sl.RD.load1 rfl .h ly_43 rfl) rfl rfl ?_ ?_
    refine Sl.GD.take (i := 4) rfl rfl rfl (Sl.RO.sliceDataNil rfl) rfl ?_
    refine Sl.GD.rd (i := 8) rfl rfl rfl (Sl.RD.load1 rfl .h ly_43 rfl) rfl ?_
    refine Sl.GD.take (i := 9) rfl rfl rfl (Sl.RO.lenSl rfl sl_43) rfl ?_
    refine Sl.GD.take (i := 10) rfl rfl rfl (Sl.RO.unsafeStrNil rfl rfl) rfl ?_
    refine Sl.GD.take (i := 11) rfl rfl rfl (Sl.RO.assign rfl) rfl ?_
    rotate_left
    refine Sl.GD.take (i := 9) rfl rfl rfl (Sl.RO.lenSl rfl sl_43) rfl ?_
    refine Sl.GD.rd (i := 3) rfl rfl rfl (Sl.RD.load1 rfl .h ly_43 rfl) rfl ?_
    refine Sl.GD.take (i := 4) rfl rfl rfl (Sl.RO.sliceDataNil rfl) rfl ?_
    refine Sl.GD.take (i := 10) rfl rfl rfl (Sl.RO.unsafeStrNil rfl rfl) rfl ?_
    refine Sl.GD.take (i := 11) rfl rfl rfl (Sl.RO.assign rfl) rfl ?_
    rotate_left
    · refine Sl.GD.done rfl ?_
      refine Sl.Post.thenN ?_
      refine Sl.Tr.ret ?_
      refine Sl.Post.fin rfl (.tmp rfl .nil) rfl .n ?_ (.inl rfl)
      exact ⟨rfl, rfl⟩
    · refine Sl.GD.done rfl ?_
      refine Sl.Post.thenN ?_
      refine Sl.Tr.ret ?_
      refine Sl.Post.fin rfl (.tmp rfl .nil) rfl .n ?_ (.inl rfl)
      exact ⟨rfl, rfl⟩
  · have hne : l ≠ [] := by intro h; subst h; simp at h0
    refine Sl.FnOk.of (κ := [(0, _)]) Go.Proofs.Tryz.func16 rfl rfl Go.Proofs.Tryz.ntmps16 rfl rfl ?_
    refine Tr.sAf (.t .h) (fun hf => ?_)
    obtain ⟨⟨b2, off, rfl⟩, hcp⟩ := sA_ne hf hne
    refine Sl.Tr.seq ?_
    refine Sl.Tr.region ?_
    refine Sl.G.ro (Sl.RO.rd (Sl.RO.assign rfl)) rfl ?_
    refine Sl.G.nil ?_
    refine Sl.Post.thenN ?_
    refine Sl.Tr.seq ?_
    refine Sl.Tr.draw (fuel := 12) (listed := [false, false, false, false, false, false, false, false, false, false, false, false]) mixed rfl rfl ?_
    refine Sl.GD.take (i := 0) rfl rfl rfl (Sl.RO.move rfl) rfl ?_
    refine Sl.GD.take (i := 1) rfl rfl rfl (Sl.RO.nilCheck rfl) rfl ?_
    refine Sl.GD.take (i := 2) rfl rfl rfl (Sl.RO.fieldAddr rfl fo_45_1) rfl ?_
    refine Sl.GD.take (i := 5) rfl rfl rfl (Sl.RO.move rfl) rfl ?_
    refine Sl.GD.take (i := 6) rfl rfl rfl (Sl.RO.nilCheck rfl) rfl ?_
    refine Sl.GD.take (i := 7) rfl rfl rfl (Sl.RO.fieldAddr rfl fo_45_1) rfl ?_
    refine Sl.GD.rd2 (i := 3) (j := 8) rfl rfl rfl rfl rfl (Sl.RD.load1 rfl .h ly_43 rfl) (Sl.RD.load1 rfl .h ly_43 rfl) rfl rfl ?_ ?_
    refine Sl.GD.take (i := 4) rfl rfl rfl (Sl.RO.sliceData rfl (by omega)) rfl ?_
    refine Sl.GD.rd (i := 8) rfl rfl rfl (Sl.RD.load1 rfl .h ly_43 rfl) rfl ?_
    refine Sl.GD.take (i := 9) rfl rfl rfl (Sl.RO.lenSl rfl sl_43) rfl ?_
    refine Sl.GD.unsafeStr (i := 10) rfl rfl rfl rfl rfl pr_59 (by kernel_rfl) (by assumption) (by omega) (.t .h) rfl ?_
    refine Sl.GD.take (i := 11) rfl rfl rfl (Sl.RO.assign rfl) rfl ?_
    rotate_left
    refine Sl.GD.take (i := 9) rfl rfl rfl (Sl.RO.lenSl rfl sl_43) rfl ?_
    refine Sl.GD.rd (i := 3) rfl rfl rfl (Sl.RD.load1 rfl .h ly_43 rfl) rfl ?_
    refine Sl.GD.take (i := 4) rfl rfl rfl (Sl.RO.sliceData rfl (by omega)) rfl ?_
    refine Sl.GD.unsafeStr (i := 10) rfl rfl rfl rfl rfl pr_59 (by kernel_rfl) (by assumption) (by omega) (.t .h) rfl ?_
    refine Sl.GD.take (i := 11) rfl rfl rfl (Sl.RO.assign rfl) rfl ?_
    rotate_left
    · refine Sl.GD.done rfl ?_
      refine Sl.Post.thenN ?_
      refine Sl.Tr.ret ?_
      refine Sl.Post.fin rfl (.tmp rfl .nil) rfl .n ?_ (.inl rfl)
      exact ⟨rfl, rfl⟩
    · refine Sl.GD.done rfl ?_
      refine Sl.Post.thenN ?_
      refine Sl.Tr.ret ?_
      refine Sl.Post.fin rfl (.tmp rfl .nil) rfl .n ?_ (.inl rfl)
      exact ⟨rfl, rfl⟩
end Go.Proofs.YtcaojfapibkplaaGreatDoor
namespace Go.Proofs.YtcaojfapibkplaaGreatDoor
open Go Go.Sl Go.En

/-- The byte of n that has j bytes below it. -/
def byteAt (n : Int) (j : Nat) : UInt8 := UInt8.ofNat (n.fdiv (2 ^ (8 * j)) % 256).toNat
/-- A number by so many bytes. -/
def putL (n : Int) (b : Nat) : List UInt8 := (List.range b).map fun k => byteAt n (b - 1 - k)
/-- Of the first k of these. -/
def putP (n : Int) (b k : Nat) : List UInt8 := (List.range k).map fun k => byteAt n (b - 1 - k)
theorem putP_succ (n : Int) (b k : Nat) : putP n b (k + 1) = putP n b k ++ [byteAt n (b - 1 - k)] := by simp [putP, List.range_succ]
theorem putL_len (n : Int) (b : Nat) : (putL n b).length = b := by simp [putL]
theorem putP_len (n : Int) (b k : Nat) : (putP n b k).length = k := by simp [putP]
theorem byteAt_wrap (n : Int) (j : Nat) : Value.int .u8 (IntKind.u8.wrap (n.fdiv (2 ^ (8 * j)))) = .int .u8 (byteAt n j).toNat := by
  obtain ⟨x, h1, h2⟩ := wrap_u8_toNat (n.fdiv (2 ^ (8 * j)))
  rw [← h1, h2]; rfl

theorem script_put (F : Frm) (b : Nat) (q p : Option Addr) (cp : Nat) (l : List UInt8) (n : Int) (m : Nat) (hq : q = none ∨ q = some ⟨b, 0, none⟩) (hl : l.length ≤ 900000) (hm : m ≤ 8) :
    FnOk Tryz.prog 15 [.func (.func 14) #[.pointer (some ⟨b, 0, none⟩)] #[], .int .i64 n, .int .i64 m] [pt b (cl [.pointer q, .slice p l.length cp] 45), sA 5 1 by8 p cp l] F
      (fun r H => r = .tuple #[] ∧ ∃ q' p' c', (q' = none ∨ q' = some ⟨b, 0, none⟩) ∧ H = [pt b (cl [.pointer q', .slice p' (l ++ putL n m).length c'] 45), sA 5 1 by8 p' c' (l ++ putL n m)]) := by
  refine Sl.FnOk.of (κ := [(0, _), (1, _), (2, _)]) Go.Proofs.Tryz.func15 rfl rfl Go.Proofs.Tryz.ntmps15 rfl rfl ?_
  refine Sl.Tr.seq ?_
  refine Sl.Tr.region ?_
  refine Sl.G.ro (Sl.RO.rd (Sl.RO.move rfl)) rfl ?_
  refine Sl.G.ro (Sl.RO.rd (Sl.RO.move rfl)) rfl ?_
  refine Sl.G.nil ?_
  refine Sl.Post.thenN ?_
  refine Sl.Tr.block ?_
  refine Sl.Tr.loop (α := Nat × Option Addr × Option Addr × Nat × List UInt8) (fun g => [(8, .int .i64 (g.1 : Nat))]) [(7, _), (0, _), (1, _), (2, _)] (fun g => [pt b (cl [.pointer g.2.1, .slice g.2.2.1 g.2.2.2.2.length g.2.2.2.1] 45), sA 5 1 by8 g.2.2.1 g.2.2.2.1 g.2.2.2.2]) [] (fun g => g.1 ≤ m ∧ (g.2.1 = none ∨ g.2.1 = some ⟨b, 0, none⟩) ∧ g.2.2.2.2 = l ++ putP n m g.1) (fun g => m - g.1) ((0, q, p, cp, l)) ?_ ⟨rfl, trivial⟩ ⟨rfl, rfl, rfl, rfl, trivial⟩ (.p .h (.p .h .o)) ?_
  · exact ⟨Nat.zero_le _, hq, by simp [putP]⟩
  rintro ⟨i, q', p', c', l'⟩ ⟨hi, hq', hl'⟩
  dsimp only [List.cons_append, List.nil_append]
  (try dsimp only at *)
  refine Sl.Tr.seq ?_
  refine Sl.Tr.region ?_
  refine Sl.G.cmp (Sl.RO.lss rfl rfl) rfl (fun hc0 => ?_) (fun hc0 => ?_)
  refine Sl.G.nil ?_
  refine Sl.Post.thenN ?_
  refine Sl.Tr.seq ?_
  refine Sl.Tr.condT rfl ?_
  refine Sl.Tr.skip ?_
  refine Sl.Post.thenN ?_
  refine Sl.Tr.seq ?_
  refine Sl.Tr.block ?_
  refine Sl.Tr.seq ?_
  refine Sl.Tr.region ?_
  refine Sl.G.ro (Sl.RO.rd (Sl.RO.move rfl)) rfl ?_
  refine Sl.G.ro (Sl.RO.rd (Sl.RO.assign rfl)) rfl ?_
  refine Sl.G.nil ?_
  refine Sl.Post.thenN ?_
  refine Sl.Tr.region ?_
  refine Sl.G.ro (Sl.RO.rd (Sl.RO.move rfl)) rfl ?_
  refine Sl.G.ro (Sl.RO.rd (Sl.RO.move rfl)) rfl ?_
  refine Sl.G.ro (Sl.RO.rd (Sl.RO.move rfl)) rfl ?_
  refine Sl.G.ro (Sl.RO.rd (Sl.RO.subI rfl rfl (by omega))) rfl ?_
  refine Sl.G.ro (Sl.RO.rd (Sl.RO.move rfl)) rfl ?_
  refine Sl.G.ro (Sl.RO.rd (Sl.RO.subI rfl rfl (by omega))) rfl ?_
  refine Sl.G.ro (Sl.RO.rd (Sl.RO.mulI rfl rfl (by omega))) rfl ?_
  refine Sl.G.ro (Sl.RO.rd (Sl.RO.shr rfl rfl (by omega))) rfl ?_
  refine Sl.G.ro (Sl.RO.rd (Sl.RO.convI rfl ik_3 ik_5)) rfl ?_
  rotate_left
  refine Sl.G.nil ?_
  refine Sl.Post.thenN ?_
  refine Sl.Tr.seq ?_
  refine Sl.Tr.condF rfl ?_
  refine Sl.Tr.exit ?_
  refine Sl.Post.thenE ?_
  refine Sl.Post.thenE ?_
  refine Sl.Post.blockE ?_
  rotate_left
  · subst hl'
    refine Sl.G.as 19 (.int .u8 (byteAt n (m - 1 - i)).toNat) rfl ?_ ?_
    · rw [← byteAt_wrap]
      have : min (8 * ((m : Int) - 1 - (i : Int))).toNat IntKind.i64.bits = 8 * (m - 1 - i) := by
        have : IntKind.i64.bits = 64 := rfl
        omega
      rw [this]
    have hlen := putP_len n m i
    refine Sl.G.call rfl rfl (.c .n) (.c (.c .n)) (.p .h (.p .h .n)) (fun G' hle hhas => writeByte _ b q' p' c' _ (byteAt n (m - 1 - i)) hq' (by simp only [List.length_append]; omega)) rfl (fun v K hR => ?_)
    obtain ⟨rfl, p2, c2, rfl⟩ := hR
    refine Sl.G.app (.c (.c .n)) ?_
    refine Sl.G.nil ?_
    refine Sl.Post.blockN ?_
    refine Sl.Post.thenN ?_
    refine Sl.Tr.region ?_
    refine Sl.G.ro (Sl.RO.rd (Sl.RO.addI rfl rfl (by omega))) rfl ?_
    refine Sl.G.ro (Sl.RO.rd (Sl.RO.move rfl)) rfl ?_
    refine Sl.G.nil ?_
    refine Sl.Post.again ((i + 1, some ⟨b, 0, none⟩, p2, c2, l ++ putP n m i ++ [byteAt n (m - 1 - i)])) ?_ ?_ ?_ ?_ ?_
    rotate_left
    · omega
    · exact ⟨rfl, trivial⟩
    · exact ⟨rfl, rfl, rfl, rfl, trivial⟩
    · exact (.p .h (.p .h .o))
    exact ⟨by omega, .inr rfl, by rw [putP_succ]; simp⟩
  · have : i = m := by omega
    subst this hl'
    refine Sl.Post.fin rfl .nil rfl (.p .h (.p .h .n)) ?_ (.inr rfl)
    exact ⟨rfl, _, _, _, hq', rfl⟩
end Go.Proofs.YtcaojfapibkplaaGreatDoor
namespace Go.Proofs.YtcaojfapibkplaaGreatDoor
open Go Go.Sl Go.En

/-- A number of bytes. -/
def num (l : List UInt8) : Nat := l.foldl (fun a b => a * 256 + b.toNat) 0
theorem num_snoc (l : List UInt8) (b : UInt8) : num (l ++ [b]) = num l * 256 + b.toNat := by simp [num]
theorem foldl_lt (l : List UInt8) : ∀ a : Nat, l.foldl (fun a b => a * 256 + b.toNat) a < (a + 1) * 256 ^ l.length := by
  induction l with
  | nil => intro a; simp
  | cons b l ih =>
    intro a
    simp only [List.foldl_cons, List.length_cons]
    refine Nat.lt_of_lt_of_le (ih _) ?_
    rw [Nat.pow_succ, Nat.mul_comm (256 ^ l.length) 256, ← Nat.mul_assoc]
    exact Nat.mul_le_mul_right _ (by have := b.toNat_lt; omega)
theorem num_lt (l : List UInt8) : num l < 256 ^ l.length := by have := foldl_lt l 0; simpa [num] using this
theorem num_lt4 {l : List UInt8} (h : l.length ≤ 4) : num l < 4294967296 := Nat.lt_of_lt_of_le (num_lt l) (by
  have : 256 ^ l.length ≤ 256 ^ 4 := Nat.pow_le_pow_right (by decide) h
  simpa using this)

theorem script_get (F : Frm) (l : List UInt8) (hl : l.length ≤ 4) : FnOk Tryz.prog 12 [str l] [] F (fun r H => r = .int .i64 (num l : Nat) ∧ H = []) := by
  refine Sl.FnOk.of (κ := [(0, _)]) Go.Proofs.Tryz.func12 rfl rfl Go.Proofs.Tryz.ntmps12 rfl rfl ?_
  refine Sl.Tr.seq ?_
  refine Sl.Tr.region ?_
  refine Sl.G.ro (Sl.RO.rd (Sl.RO.assign rfl)) rfl ?_
  refine Sl.G.nil ?_
  refine Sl.Post.thenN ?_
  refine Sl.Tr.seq ?_
  refine Sl.Tr.region ?_
  refine Sl.G.ro (Sl.RO.rd (Sl.RO.assign rfl)) rfl ?_
  refine Sl.G.nil ?_
  refine Sl.Post.thenN ?_
  refine Sl.Tr.seq ?_
  refine Sl.Tr.seq ?_
  refine Sl.Tr.region ?_
  refine Sl.G.ro (Sl.RO.rd (Sl.RO.move rfl)) rfl ?_
  refine Sl.G.ro (Sl.RO.rd (Sl.RO.lenStr rfl st_9)) rfl ?_
  refine Sl.G.ro (Sl.RO.rd (Sl.RO.move rfl)) rfl ?_
  refine Sl.G.nil ?_
  refine Sl.Post.thenN ?_
  refine Sl.Tr.block ?_
  refine Sl.Tr.loop (α := Nat) (fun i => [(7, .int .i64 (i : Nat)), (3, .int .i64 (num (l.take i) : Nat))]) [(6, _), (5, _), (2, _), (0, _)] (fun _ => []) [] (fun i => i ≤ l.length) (fun i => l.length - i) (0) ?_ ⟨rfl, rfl, trivial⟩ ⟨rfl, rfl, rfl, rfl, trivial⟩ .o ?_
  · omega
  rintro i hi
  dsimp only [List.cons_append, List.nil_append]
  (try dsimp only at *)
  have hlt := num_lt4 (l := l.take i) (by simp; omega)
  refine Sl.Tr.seq ?_
  refine Sl.Tr.region ?_
  refine Sl.G.cmp (Sl.RO.lss rfl rfl) rfl (fun hc0 => ?_) (fun hc0 => ?_)
  refine Sl.G.nil ?_
  refine Sl.Post.thenN ?_
  refine Sl.Tr.seq ?_
  refine Sl.Tr.condT rfl ?_
  refine Sl.Tr.skip ?_
  refine Sl.Post.thenN ?_
  refine Sl.Tr.seq ?_
  refine Sl.Tr.block ?_
  refine Sl.Tr.seq ?_
  refine Sl.Tr.region ?_
  refine Sl.G.ro (Sl.RO.rd (Sl.RO.move rfl)) rfl ?_
  refine Sl.G.ro (Sl.RO.rd (Sl.RO.assign rfl)) rfl ?_
  refine Sl.G.nil ?_
  refine Sl.Post.thenN ?_
  refine Sl.Tr.region ?_
  refine Sl.G.ro (Sl.RO.rd (Sl.RO.move rfl)) rfl ?_
  refine Sl.G.ro (Sl.RO.rd (Sl.RO.shl rfl rfl (by omega))) rfl ?_
  refine Sl.G.ro (Sl.RO.rd (Sl.RO.move rfl)) rfl ?_
  refine Sl.G.ro (Sl.RO.rd (Sl.RO.move rfl)) rfl ?_
  rotate_left
  refine Sl.G.nil ?_
  refine Sl.Post.thenN ?_
  refine Sl.Tr.seq ?_
  refine Sl.Tr.condF rfl ?_
  refine Sl.Tr.exit ?_
  refine Sl.Post.thenE ?_
  refine Sl.Post.thenE ?_
  refine Sl.Post.blockE ?_
  refine Sl.Post.thenN ?_
  refine Sl.Tr.seq ?_
  refine Sl.Tr.region ?_
  refine Sl.G.ro (Sl.RO.rd (Sl.RO.move rfl)) rfl ?_
  refine Sl.G.ro (Sl.RO.rd (Sl.RO.assign rfl)) rfl ?_
  refine Sl.G.nil ?_
  refine Sl.Post.thenN ?_
  refine Sl.Tr.ret ?_
  rotate_left
  · obtain ⟨x, hx⟩ := get_lt (l := l) (i := i) (by omega)
    have hb := x.toNat_lt
    refine Sl.G.ro (Sl.RO.rd (Sl.RO.indexStrI rfl rfl st_9 hx (by omega))) rfl ?_
    refine Sl.G.ro (Sl.RO.rd (Sl.RO.convI64 rfl ik_5 ik_3 (by omega))) rfl ?_
    refine Sl.G.ro (Sl.RO.rd (Sl.RO.bitop (.inr (.inl rfl)) rfl rfl)) rfl ?_
    refine Sl.G.ro (Sl.RO.rd (Sl.RO.assign rfl)) rfl ?_
    refine Sl.G.nil ?_
    refine Sl.Post.blockN ?_
    refine Sl.Post.thenN ?_
    refine Sl.Tr.region ?_
    refine Sl.G.ro (Sl.RO.rd (Sl.RO.addI rfl rfl (by omega))) rfl ?_
    refine Sl.G.ro (Sl.RO.rd (Sl.RO.move rfl)) rfl ?_
    refine Sl.G.nil ?_
    refine Post.as 3 (.int .i64 (num (l.take (i + 1)) : Nat)) rfl ?_ ?_
    · rw [take_succ' hx, num_snoc]
      have h1 : ((num (l.take i) : Nat) : Int) * 2 ^ min (Int.toNat 8) IntKind.i64.bits = ((num (l.take i) * 256 : Nat) : Int) := by
        have : min (Int.toNat 8) IntKind.i64.bits = 8 := rfl
        rw [this]; omega
      rw [h1, wrap_i64 (by omega), bits_or_byte _ _ (by omega) (by omega)]
    refine Sl.Post.again (i + 1) ?_ ?_ ?_ ?_ ?_
    · omega
    · omega
    · exact ⟨rfl, rfl, trivial⟩
    · exact ⟨rfl, rfl, rfl, rfl, trivial⟩
    · exact .o
  · have : i = l.length := by omega
    subst this
    refine Sl.Post.fin rfl (.tmp rfl .nil) rfl .n ?_ (.inl rfl)
    simp

theorem ref_number (F : Frm) (l : List UInt8) (hl : l.length ≤ 4) : FnOk Tryz.prog 13 [str l] [] F (fun r H => r = .int .i64 (num l : Nat) ∧ H = []) := by
  refine Sl.FnOk.of (κ := [(0, _)]) Go.Proofs.Tryz.func13 rfl rfl Go.Proofs.Tryz.ntmps13 rfl rfl ?_
  refine Sl.Tr.seq ?_
  refine Sl.Tr.region ?_
  refine Sl.G.ro (Sl.RO.rd (Sl.RO.assign rfl)) rfl ?_
  refine Sl.G.nil ?_
  refine Sl.Post.thenN ?_
  refine Sl.Tr.seq ?_
  refine Sl.Tr.region ?_
  refine Sl.G.ro (Sl.RO.rd (Sl.RO.assign rfl)) rfl ?_
  refine Sl.G.nil ?_
  refine Sl.Post.thenN ?_
  refine Sl.Tr.seq ?_
  refine Sl.Tr.seq ?_
  refine Sl.Tr.region ?_
  refine Sl.G.ro (Sl.RO.rd (Sl.RO.assign rfl)) rfl ?_
  refine Sl.G.nil ?_
  refine Sl.Post.thenN ?_
  refine Sl.Tr.block ?_
  refine Sl.Tr.loop (α := Nat) (fun i => [(4, .int .i64 (i : Nat)), (3, .int .i64 (num (l.take i) : Nat))]) [(2, _), (0, _)] (fun _ => []) [] (fun i => i ≤ l.length) (fun i => l.length - i) (0) ?_ ⟨rfl, rfl, trivial⟩ ⟨rfl, rfl, trivial⟩ .o ?_
  · omega
  rintro i hi
  dsimp only [List.cons_append, List.nil_append]
  (try dsimp only at *)
  have hlt := num_lt4 (l := l.take i) (by simp; omega)
  refine Sl.Tr.seq ?_
  refine Sl.Tr.seq ?_
  refine Sl.Tr.region ?_
  refine Sl.G.ro (Sl.RO.rd (Sl.RO.move rfl)) rfl ?_
  refine Sl.G.ro (Sl.RO.rd (Sl.RO.move rfl)) rfl ?_
  refine Sl.G.ro (Sl.RO.rd (Sl.RO.lenStr rfl st_9)) rfl ?_
  refine Sl.G.cmp (Sl.RO.lss rfl rfl) rfl (fun hc0 => ?_) (fun hc0 => ?_)
  refine Sl.G.nil ?_
  refine Sl.Post.thenN ?_
  refine Sl.Tr.condT rfl ?_
  refine Sl.Tr.skip ?_
  refine Sl.Post.thenN ?_
  refine Sl.Tr.seq ?_
  refine Sl.Tr.block ?_
  refine Sl.Tr.region ?_
  refine Sl.G.ro (Sl.RO.rd (Sl.RO.move rfl)) rfl ?_
  refine Sl.G.ro (Sl.RO.rd (Sl.RO.mulI rfl rfl (by omega))) rfl ?_
  refine Sl.G.ro (Sl.RO.rd (Sl.RO.move rfl)) rfl ?_
  refine Sl.G.ro (Sl.RO.rd (Sl.RO.move rfl)) rfl ?_
  rotate_left
  refine Sl.G.nil ?_
  refine Sl.Post.thenN ?_
  refine Sl.Tr.condF rfl ?_
  refine Sl.Tr.exit ?_
  refine Sl.Post.thenE ?_
  refine Sl.Post.thenE ?_
  refine Sl.Post.blockE ?_
  refine Sl.Post.thenN ?_
  refine Sl.Tr.seq ?_
  refine Sl.Tr.region ?_
  refine Sl.G.ro (Sl.RO.rd (Sl.RO.move rfl)) rfl ?_
  refine Sl.G.ro (Sl.RO.rd (Sl.RO.assign rfl)) rfl ?_
  refine Sl.G.nil ?_
  refine Sl.Post.thenN ?_
  refine Sl.Tr.ret ?_
  rotate_left
  · obtain ⟨x, hx⟩ := get_lt (l := l) (i := i) (by omega)
    have hb := x.toNat_lt
    refine Sl.G.ro (Sl.RO.rd (Sl.RO.indexStrI rfl rfl st_9 hx (by omega))) rfl ?_
    refine Sl.G.ro (Sl.RO.rd (Sl.RO.convI64 rfl ik_5 ik_3 (by omega))) rfl ?_
    refine Sl.G.ro (Sl.RO.rd (Sl.RO.addI rfl rfl (by omega))) rfl ?_
    refine Sl.G.ro (Sl.RO.rd (Sl.RO.assign rfl)) rfl ?_
    refine Sl.G.nil ?_
    refine Sl.Post.blockN ?_
    refine Sl.Post.thenN ?_
    refine Sl.Tr.region ?_
    refine Sl.G.ro (Sl.RO.rd (Sl.RO.move rfl)) rfl ?_
    refine Sl.G.ro (Sl.RO.rd (Sl.RO.addI rfl rfl (by omega))) rfl ?_
    refine Sl.G.ro (Sl.RO.rd (Sl.RO.assign rfl)) rfl ?_
    refine Sl.G.nil ?_
    refine Post.as 3 (.int .i64 (num (l.take (i + 1)) : Nat)) rfl ?_ ?_
    · rw [take_succ' hx, num_snoc]; congr 1
    refine Sl.Post.again (i + 1) ?_ ?_ ?_ ?_ ?_
    · omega
    · omega
    · exact ⟨rfl, rfl, trivial⟩
    · exact ⟨rfl, rfl, trivial⟩
    · exact .o
  · have : i = l.length := by omega
    subst this
    refine Sl.Post.fin rfl (.tmp rfl .nil) rfl .n ?_ (.inl rfl)
    simp

/-- What is left behind i bytes. -/
def shN (n : Int) (i : Nat) : Int := n.fdiv (2 ^ (8 * i))
theorem shN_succ (n : Int) (i : Nat) : (shN n i).fdiv (2 ^ 8) = shN n (i + 1) := by
  unfold shN
  rw [Int.fdiv_eq_ediv_of_nonneg _ (by exact Int.le_of_lt (Int.pow_pos (by decide))), Int.fdiv_eq_ediv_of_nonneg _ (by exact Int.le_of_lt (Int.pow_pos (by decide))), Int.fdiv_eq_ediv_of_nonneg _ (by exact Int.le_of_lt (Int.pow_pos (by decide)))]
  rw [Int.ediv_ediv_of_nonneg (by exact Int.le_of_lt (Int.pow_pos (by decide))), ← Int.pow_add]
  congr 2
/-- The last i bytes of m. -/
def putS (n : Int) (i : Nat) : List UInt8 := (List.range i).map fun k => byteAt n (i - 1 - k)
theorem putS_succ (n : Int) (i : Nat) : putS n (i + 1) = byteAt n i :: putS n i := by
  simp only [putS, List.range_succ_eq_map, List.map_cons, List.map_map]
  congr 1
  apply List.map_congr_left
  intro k _
  simp only [Function.comp]
  congr 1
  omega
theorem putS_putL (n : Int) (m : Nat) : putS n m = putL n m := rfl

theorem byteAt_mod (n : Int) (i : Nat) : [Value.int .u8 (IntKind.u8.wrap (shN n i % 256))] = flat by8 [byteAt n i] := by
  have := byteAt_wrap n i
  rw [wrap_u8] at this ⊢
  simp only [flat, by8, List.append_nil]
  rw [← this, shN, Int.emod_emod_of_dvd _ (Int.dvd_refl 256)]
theorem ref_put (F : Frm) (n : Int) (m : Nat) (hm : m ≤ 8) : FnOk Tryz.prog 17 [.int .i64 n, .int .i64 m] [] F (fun r H => r = str (putL n m) ∧ H = []) := by
  refine Sl.FnOk.of (κ := [(0, _), (1, _)]) Go.Proofs.Tryz.func17 rfl rfl Go.Proofs.Tryz.ntmps17 rfl rfl ?_
  refine Sl.Tr.seq ?_
  refine Sl.Tr.region ?_
  refine Sl.G.ro (Sl.RO.rd (Sl.RO.assign rfl)) rfl ?_
  refine Sl.G.nil ?_
  refine Sl.Post.thenN ?_
  refine Sl.Tr.seq ?_
  refine Sl.Tr.region ?_
  refine Sl.G.ro (Sl.RO.rd (Sl.RO.assign rfl)) rfl ?_
  refine Sl.G.nil ?_
  refine Sl.Post.thenN ?_
  refine Sl.Tr.seq ?_
  refine Sl.Tr.seq ?_
  refine Sl.Tr.region ?_
  refine Sl.G.ro (Sl.RO.rd (Sl.RO.assign rfl)) rfl ?_
  refine Sl.G.nil ?_
  refine Sl.Post.thenN ?_
  refine Sl.Tr.block ?_
  refine Tr.as 0 (.int .i64 (shN n 0)) rfl (by simp [shN]) ?_
  refine Sl.Tr.loop (α := Nat) (fun i => [(0, .int .i64 (shN n i)), (5, str (putS n i)), (6, .int .i64 (i : Nat))]) [(4, _), (1, _)] (fun _ => []) [] (fun i => i ≤ m) (fun i => m - i) (0) ?_ ⟨rfl, rfl, rfl, trivial⟩ ⟨rfl, rfl, trivial⟩ .o ?_
  · omega
  rintro i hi
  dsimp only [List.cons_append, List.nil_append]
  (try dsimp only at *)
  refine Sl.Tr.seq ?_
  refine Sl.Tr.seq ?_
  refine Sl.Tr.region ?_
  refine Sl.G.ro (Sl.RO.rd (Sl.RO.move rfl)) rfl ?_
  refine Sl.G.ro (Sl.RO.rd (Sl.RO.move rfl)) rfl ?_
  refine Sl.G.cmp (Sl.RO.lss rfl rfl) rfl (fun hc0 => ?_) (fun hc0 => ?_)
  refine Sl.G.nil ?_
  refine Sl.Post.thenN ?_
  refine Sl.Tr.condT rfl ?_
  refine Sl.Tr.skip ?_
  refine Sl.Post.thenN ?_
  refine Sl.Tr.seq ?_
  refine Sl.Tr.block ?_
  refine Sl.Tr.seq ?_
  refine Sl.Tr.region ?_
  refine Sl.G.ro (Sl.RO.rd (Sl.RO.move rfl)) rfl ?_
  refine Sl.G.ro (Sl.RO.rd (Sl.RO.bitop (.inl rfl) rfl rfl)) rfl ?_
  refine Sl.G.ro (Sl.RO.rd (Sl.RO.convI rfl ik_3 ik_5)) rfl ?_
  refine Sl.G.buildSlice ap_43 rfl rfl rfl rfl rfl (fun b1 => ?_)
  rotate_left
  refine Sl.G.nil ?_
  refine Sl.Post.thenN ?_
  refine Sl.Tr.condF rfl ?_
  refine Sl.Tr.exit ?_
  refine Sl.Post.thenE ?_
  refine Sl.Post.thenE ?_
  refine Sl.Post.blockE ?_
  refine Sl.Post.thenN ?_
  refine Sl.Tr.seq ?_
  refine Sl.Tr.region ?_
  refine Sl.G.ro (Sl.RO.rd (Sl.RO.move rfl)) rfl ?_
  refine Sl.G.ro (Sl.RO.rd (Sl.RO.assign rfl)) rfl ?_
  refine Sl.G.nil ?_
  refine Sl.Post.thenN ?_
  refine Sl.Tr.ret ?_
  rotate_left
  · refine Sl.G.mem (fun hs => Sl.Sat.ptsA (l := [byteAt n i]) by8.el ((by rw [bits_255]; exact (byteAt_mod n i).symm)) .h hs) ?_
    refine Sl.G.ro (Sl.RD.bytesStr rfl sl_43 ik_5 st_9 .h) rfl ?_
    refine Sl.G.ro (Sl.RO.rd (Sl.RO.move rfl)) rfl ?_
    have hlen : (putS n i).length = i := by simp [putS]
    refine Sl.G.ro (Sl.RO.rd (Sl.RO.concat rfl rfl (by simp only [List.length_cons, List.length_nil]; omega))) rfl ?_
    refine Sl.G.ro (Sl.RO.rd (Sl.RO.assign rfl)) rfl ?_
    refine Sl.G.nil ?_
    refine Sl.Post.thenN ?_
    refine Sl.Tr.region ?_
    refine Sl.G.ro (Sl.RO.rd (Sl.RO.move rfl)) rfl ?_
    refine Sl.G.ro (Sl.RO.rd (Sl.RO.shr rfl rfl (by omega))) rfl ?_
    refine Sl.G.ro (Sl.RO.rd (Sl.RO.assign rfl)) rfl ?_
    refine Sl.G.nil ?_
    refine Sl.Post.blockN ?_
    refine Sl.Post.thenN ?_
    refine Sl.Tr.region ?_
    refine Sl.G.ro (Sl.RO.rd (Sl.RO.move rfl)) rfl ?_
    refine Sl.G.ro (Sl.RO.rd (Sl.RO.addI rfl rfl (by omega))) rfl ?_
    refine Sl.G.ro (Sl.RO.rd (Sl.RO.assign rfl)) rfl ?_
    refine Sl.G.nil ?_
    refine Post.as 5 (str (putS n (i + 1))) rfl ?_ ?_
    · rw [putS_succ]; rfl
    refine Post.as 0 (.int .i64 (shN n (i + 1))) rfl ?_ ?_
    · rw [← shN_succ]; rfl
    refine Sl.Post.again (i + 1) ?_ ?_ ?_ ?_ ?_
    · omega
    · omega
    · exact ⟨rfl, rfl, rfl, trivial⟩
    · exact ⟨rfl, rfl, trivial⟩
    · exact .o
  · have : i = m := by omega
    subst this
    refine Sl.Post.fin rfl (.tmp rfl .nil) rfl .n ?_ (.inl rfl)
    exact ⟨rfl, rfl⟩
end Go.Proofs.YtcaojfapibkplaaGreatDoor
namespace Go.Proofs.YtcaojfapibkplaaGreatDoor
open Go Go.Sl Go.En
open Go.En (Event Act)

/-- A reply, with where its events lie. -/
structure RepV where
  err : Int
  p : Option Addr
  c : Nat
  ev : List En.Event
abbrev RepV.cells (r : RepV) : List Value := [.int .i64 r.err, .slice r.p r.ev.length r.c]
theorem RepV.el : El RepV.cells 2 := ⟨fun _ => rfl, fun _ => rfl, by decide⟩

def evB (e : En.Event) : List UInt8 := putL e.kind 1 ++ putL e.id 2 ++ putL e.n 4
def evsB (l : List En.Event) : List UInt8 := l.flatMap evB
def repB (r : RepV) : List UInt8 := putL r.err 1 ++ putL (min r.ev.length 255 : Nat) 1 ++ evsB (r.ev.take 255)
def bytesB (l : List RepV) : List UInt8 := l.flatMap repB
theorem evB_len (e : En.Event) : (evB e).length = 7 := by simp [evB, putL_len]
theorem evsB_len (l : List En.Event) : (evsB l).length = 7 * l.length := by
  induction l with
  | nil => rfl
  | cons e l ih => simp only [evsB, List.flatMap_cons, List.length_append, evB_len, List.length_cons] at ih ⊢; omega
theorem repB_len (r : RepV) : (repB r).length ≤ 1787 := by
  simp only [repB, List.length_append, putL_len, evsB_len, List.length_take]; omega
theorem bytesB_len (l : List RepV) : (bytesB l).length ≤ 1787 * l.length := by
  induction l with
  | nil => simp [bytesB]
  | cons e l ih => have := repB_len e; simp only [bytesB, List.flatMap_cons, List.length_append, List.length_cons] at ih ⊢; omega
theorem evsB_take {l : List En.Event} {i : Nat} {e : En.Event} (h : l[i]? = some e) : evsB (l.take (i + 1)) = evsB (l.take i) ++ evB e := by
  rw [take_succ' h]; simp [evsB]
theorem bytesB_take {l : List RepV} {i : Nat} {e : RepV} (h : l[i]? = some e) : bytesB (l.take (i + 1)) = bytesB (l.take i) ++ repB e := by
  rw [take_succ' h]; simp [bytesB]

/-- The replies' memory, in the frame. -/
theorem bytesB_take_len (l : List RepV) (i : Nat) : (bytesB (l.take i)).length ≤ (bytesB l).length := by
  have : bytesB l = bytesB (l.take i) ++ bytesB (l.drop i) := by simp only [bytesB, ← List.flatMap_append, List.take_append_drop]
  rw [this, List.length_append]; omega
structure RepsF (F : Frm) (T : Nat × Nat) (p : Option Addr) (c : Nat) (l : List RepV) : Prop where
  row : F.has (sA T.1 2 RepV.cells p c l)
  evs : ∀ r ∈ l, F.has (sA T.2 3 En.Event.cells r.p r.c r.ev) ∧ r.ev.length ≤ 1000

/-- the same, whatever array each lies in -/
structure RepsE (F : Frm) (p : Option Addr) (c : Nat) (l : List RepV) : Prop where
  row : ∃ T, F.has (sA T 2 RepV.cells p c l)
  evs : ∀ r ∈ l, (∃ T, F.has (sA T 3 En.Event.cells r.p r.c r.ev)) ∧ r.ev.length ≤ 1000

theorem take_min255 (l : List En.Event) : l.take (min l.length 255) = l.take 255 := by
  rcases Nat.le_total l.length 255 with h | h
  · rw [Nat.min_eq_left h, List.take_length, List.take_of_length_le h]
  · rw [Nat.min_eq_right h]
theorem ref_Bytes (F : Frm) (p : Option Addr) (c : Nat) (l : List RepV) (hv : RepsE F p c l) (hl : (bytesB l).length ≤ 890000) (hl2 : l.length ≤ 1000000) :
    FnOk Tryz.prog 9 [.slice p l.length c] [] F (fun r H => r = str (bytesB l) ∧ H = []) := by
  obtain ⟨T1, hrow⟩ := hv.row
  refine Sl.FnOk.of (κ := [(0, _)]) Go.Proofs.Tryz.func9 rfl rfl Go.Proofs.Tryz.ntmps9 rfl rfl ?_
  refine Sl.Tr.seq ?_
  refine Sl.Tr.region ?_
  refine Sl.G.ro (Sl.RO.rd (Sl.RO.assign rfl)) rfl ?_
  refine Sl.G.nil ?_
  refine Sl.Post.thenN ?_
  refine Sl.Tr.seq ?_
  refine Sl.Tr.region ?_
  refine Sl.G.ro (Sl.RO.rd (Sl.RO.assign rfl)) rfl ?_
  refine Sl.G.nil ?_
  refine Sl.Post.thenN ?_
  refine Sl.Tr.seq ?_
  refine Sl.Tr.seq ?_
  refine Sl.Tr.region ?_
  refine Sl.G.ro (Sl.RO.rd (Sl.RO.assign rfl)) rfl ?_
  refine Sl.G.nil ?_
  refine Sl.Post.thenN ?_
  refine Sl.Tr.block ?_
  refine Sl.Tr.loop (α := Nat) (fun i => [(4, .int .i64 (i : Nat)), (3, str (bytesB (l.take i)))]) [(2, _), (0, _)] (fun _ => []) [] (fun i => i ≤ l.length) (fun i => l.length - i) (0) ?_ ⟨rfl, rfl, trivial⟩ ⟨rfl, rfl, trivial⟩ .o ?_
  · omega
  rintro i hi
  dsimp only [List.cons_append, List.nil_append]
  (try dsimp only at *)
  have hB := Nat.le_trans (bytesB_take_len l i) hl
  have hlt : (l.take i).length ≤ l.length := by simp; omega
  refine Sl.Tr.seq ?_
  refine Sl.Tr.seq ?_
  refine Sl.Tr.region ?_
  refine Sl.G.ro (Sl.RO.rd (Sl.RO.move rfl)) rfl ?_
  refine Sl.G.ro (Sl.RO.rd (Sl.RO.move rfl)) rfl ?_
  refine Sl.G.ro (Sl.RO.rd (Sl.RO.lenSl rfl sl_22)) rfl ?_
  refine Sl.G.cmp (Sl.RO.lss rfl rfl) rfl (fun hc0 => ?_) (fun hc0 => ?_)
  refine Sl.G.nil ?_
  refine Sl.Post.thenN ?_
  refine Sl.Tr.condT rfl ?_
  refine Sl.Tr.skip ?_
  refine Sl.Post.thenN ?_
  refine Sl.Tr.seq ?_
  refine Sl.Tr.block ?_
  refine Sl.Tr.seq ?_
  refine Sl.Tr.region ?_
  refine Sl.G.ro (Sl.RO.rd (Sl.RO.move rfl)) rfl ?_
  refine Sl.G.ro (Sl.RO.rd (Sl.RO.move rfl)) rfl ?_
  rotate_left
  refine Sl.G.nil ?_
  refine Sl.Post.thenN ?_
  refine Sl.Tr.condF rfl ?_
  refine Sl.Tr.exit ?_
  refine Sl.Post.thenE ?_
  refine Sl.Post.thenE ?_
  refine Sl.Post.blockE ?_
  refine Sl.Post.thenN ?_
  refine Sl.Tr.seq ?_
  refine Sl.Tr.region ?_
  refine Sl.G.ro (Sl.RO.rd (Sl.RO.move rfl)) rfl ?_
  refine Sl.G.ro (Sl.RO.rd (Sl.RO.assign rfl)) rfl ?_
  refine Sl.G.nil ?_
  refine Sl.Post.thenN ?_
  refine Sl.Tr.ret ?_
  rotate_left
  · obtain ⟨r, hr⟩ := get_lt (l := l) (i := i) (by omega)
    obtain ⟨⟨T2, hev⟩, hel⟩ := hv.evs r (List.mem_of_getElem? hr)
    refine Sl.G.ro (Sl.RO.rd (Sl.RO.atEl rfl rfl sl_22 hrow (by assumption))) rfl ?_
    refine Sl.G.ro (Sl.RO.rd (Sl.RO.fieldEl rfl hrow (by assumption) fo_27_1)) rfl ?_
    refine Sl.G.ro (Sl.RO.rd (Sl.RO.loadEp1 rfl hrow (by assumption) ly_25 rfl)) rfl ?_
    refine Sl.G.ro (Sl.RO.rd (Sl.RO.lenSl rfl sl_25)) rfl ?_
    refine Sl.G.ro (Sl.RO.rd (Sl.RO.assign rfl)) rfl ?_
    refine Sl.G.nil ?_
    refine Sl.Post.thenN ?_
    refine Sl.Tr.join1 (α := Unit) (fun _ => [(5, .int .i64 (min r.ev.length 255 : Nat))]) [(19, _), (18, _), (17, _), (16, _), (15, _), (14, _), (11, _), (10, _), (9, _), (8, _), (4, _), (3, _), (2, _), (0, _)] (fun _ => []) [] (fun _ => True) ⟨rfl, rfl, rfl, rfl, rfl, rfl, rfl, rfl, rfl, rfl, rfl, rfl, rfl, rfl, trivial⟩ .o ?_ ?_
    · refine Sl.Tr.seq ?_
      refine Sl.Tr.region ?_
      refine Sl.G.ro (Sl.RO.rd (Sl.RO.move rfl)) rfl ?_
      refine Sl.G.cmp (Sl.RO.gtr rfl rfl) rfl (fun hc2 => ?_) (fun hc2 => ?_)
      refine Sl.G.nil ?_
      refine Sl.Post.thenN ?_
      refine Sl.Tr.condT rfl ?_
      refine Sl.Tr.region ?_
      refine Sl.G.ro (Sl.RO.rd (Sl.RO.assign rfl)) rfl ?_
      refine Sl.G.nil ?_
      rotate_left
      refine Sl.G.nil ?_
      refine Sl.Post.thenN ?_
      refine Sl.Tr.condF rfl ?_
      refine Sl.Tr.skip ?_
      rotate_left
      · refine Post.as 5 (.int .i64 (min r.ev.length 255 : Nat)) rfl (by congr 1; omega) ?_
        refine Sl.Post.joinA (()) ?_ ⟨rfl, trivial⟩ ⟨rfl, rfl, rfl, rfl, rfl, rfl, rfl, rfl, rfl, rfl, rfl, rfl, rfl, rfl, trivial⟩ .o
        (first | exact trivial | omega)
      · refine Post.as 5 (.int .i64 (min r.ev.length 255 : Nat)) rfl (by congr 1; omega) ?_
        refine Sl.Post.joinA (()) ?_ ⟨rfl, trivial⟩ ⟨rfl, rfl, rfl, rfl, rfl, rfl, rfl, rfl, rfl, rfl, rfl, rfl, rfl, rfl, trivial⟩ .o
        (first | exact trivial | omega)
    rintro _ _
    dsimp only [List.cons_append, List.nil_append]
    (try dsimp only at *)
    refine Sl.Tr.seq ?_
    refine Sl.Tr.region ?_
    refine Sl.G.ro (Sl.RO.rd (Sl.RO.move rfl)) rfl ?_
    refine Sl.G.ro (Sl.RO.rd (Sl.RO.move rfl)) rfl ?_
    refine Sl.G.ro (Sl.RO.rd (Sl.RO.move rfl)) rfl ?_
    refine Sl.G.ro (Sl.RO.rd (Sl.RO.atEl rfl rfl sl_22 hrow (by assumption))) rfl ?_
    refine Sl.G.ro (Sl.RO.rd (Sl.RO.fieldEl rfl hrow (by assumption) fo_27_0)) rfl ?_
    refine Sl.G.ro (Sl.RO.rd (Sl.RO.loadEp1 rfl hrow (by assumption) ly_24 rfl)) rfl ?_
    have e1 := putL_len r.err 1
    have e2 := putL_len ((min r.ev.length 255 : Nat) : Int) 1
    refine Sl.G.call rfl rfl .n (.c (.c .n)) .n (fun G' hle hhas => ref_put _ r.err 1 (by decide)) rfl (fun v K hR => ?_)
    obtain ⟨rfl, rfl⟩ := hR
    refine Sl.G.app .n ?_
    refine Sl.G.ro (Sl.RO.rd (Sl.RO.concat rfl rfl (by omega))) rfl ?_
    refine Sl.G.ro (Sl.RO.rd (Sl.RO.move rfl)) rfl ?_
    refine Sl.G.call rfl rfl .n (.c (.c .n)) .n (fun G' hle hhas => ref_put _ ((min r.ev.length 255 : Nat) : Int) 1 (by decide)) rfl (fun v K hR => ?_)
    obtain ⟨rfl, rfl⟩ := hR
    refine Sl.G.app .n ?_
    refine Sl.G.ro (Sl.RO.rd (Sl.RO.concat rfl rfl (by simp only [List.length_append]; omega))) rfl ?_
    refine Sl.G.ro (Sl.RO.rd (Sl.RO.assign rfl)) rfl ?_
    refine Sl.G.nil ?_
    refine Sl.Post.thenN ?_
    refine Sl.Tr.seq ?_
    refine Sl.Tr.region ?_
    refine Sl.G.ro (Sl.RO.rd (Sl.RO.assign rfl)) rfl ?_
    refine Sl.G.nil ?_
    refine Sl.Post.thenN ?_
    refine Sl.Tr.block ?_
    refine Tr.as 3 (str (bytesB (l.take i) ++ putL r.err 1 ++ putL ((min r.ev.length 255 : Nat) : Int) 1 ++ evsB (r.ev.take 0))) rfl (by simp [evsB]) ?_
    refine Sl.Tr.loop (α := Nat) (fun k => [(6, .int .i64 (k : Nat)), (3, str (bytesB (l.take i) ++ putL r.err 1 ++ putL ((min r.ev.length 255 : Nat) : Int) 1 ++ evsB (r.ev.take k)))]) [(32, _), (31, _), (30, _), (29, _), (28, _), (27, _), (26, _), (25, _), (24, _), (23, _), (22, _), (5, _), (19, _), (18, _), (17, _), (16, _), (15, _), (14, _), (11, _), (10, _), (9, _), (8, _), (4, _), (2, _), (0, _)] (fun _ => []) [] (fun k => k ≤ min r.ev.length 255) (fun k => min r.ev.length 255 - k) (0) ?_ ⟨rfl, rfl, trivial⟩ ⟨rfl, rfl, rfl, rfl, rfl, rfl, rfl, rfl, rfl, rfl, rfl, rfl, rfl, rfl, rfl, rfl, rfl, rfl, rfl, rfl, rfl, rfl, rfl, rfl, rfl, trivial⟩ .o ?_
    · omega
    rintro k hk
    dsimp only [List.cons_append, List.nil_append]
    (try dsimp only at *)
    have hE := evsB_len (r.ev.take k)
    have hE2 : (r.ev.take k).length = k := by simp; omega
    refine Sl.Tr.seq ?_
    refine Sl.Tr.seq ?_
    refine Sl.Tr.region ?_
    refine Sl.G.ro (Sl.RO.rd (Sl.RO.move rfl)) rfl ?_
    refine Sl.G.ro (Sl.RO.rd (Sl.RO.move rfl)) rfl ?_
    refine Sl.G.cmp (Sl.RO.lss rfl rfl) rfl (fun hc3 => ?_) (fun hc3 => ?_)
    refine Sl.G.nil ?_
    refine Sl.Post.thenN ?_
    refine Sl.Tr.condT rfl ?_
    refine Sl.Tr.skip ?_
    refine Sl.Post.thenN ?_
    refine Sl.Tr.seq ?_
    refine Sl.Tr.block ?_
    refine Sl.Tr.seq ?_
    refine Sl.Tr.region ?_
    refine Sl.G.ro (Sl.RO.rd (Sl.RO.move rfl)) rfl ?_
    refine Sl.G.ro (Sl.RO.rd (Sl.RO.move rfl)) rfl ?_
    refine Sl.G.ro (Sl.RO.rd (Sl.RO.atEl rfl rfl sl_22 hrow (by assumption))) rfl ?_
    refine Sl.G.ro (Sl.RO.rd (Sl.RO.fieldEl rfl hrow (by assumption) fo_27_1)) rfl ?_
    refine Sl.G.ro (Sl.RO.rd (Sl.RO.loadEp1 rfl hrow (by assumption) ly_25 rfl)) rfl ?_
    refine Sl.G.ro (Sl.RO.rd (Sl.RO.move rfl)) rfl ?_
    rotate_left
    refine Sl.G.nil ?_
    refine Sl.Post.thenN ?_
    refine Sl.Tr.condF rfl ?_
    refine Sl.Tr.exit ?_
    refine Sl.Post.thenE ?_
    refine Sl.Post.thenE ?_
    refine Sl.Post.blockE ?_
    refine Sl.Post.blockN ?_
    refine Sl.Post.thenN ?_
    refine Sl.Tr.region ?_
    refine Sl.G.ro (Sl.RO.rd (Sl.RO.move rfl)) rfl ?_
    refine Sl.G.ro (Sl.RO.rd (Sl.RO.addI rfl rfl (by omega))) rfl ?_
    refine Sl.G.ro (Sl.RO.rd (Sl.RO.assign rfl)) rfl ?_
    refine Sl.G.nil ?_
    rotate_left
    · obtain ⟨e, he⟩ := get_lt (l := r.ev) (i := k) (by omega)
      refine Sl.G.ro (Sl.RO.rd (Sl.RO.atEl rfl rfl sl_25 hev (by assumption))) rfl ?_
      refine Sl.G.ro (Sl.RO.rd (Sl.RO.loadEp rfl hev (by assumption) ly_41 rfl)) rfl ?_
      refine Sl.G.alloc zv_41 rfl (fun b4 => ?_)
      refine Sl.G.store rfl rfl rfl rfl ly_41 rfl .h rfl ?_
      refine Sl.G.nil ?_
      refine Sl.Post.thenN ?_
      refine Sl.Tr.freeze .h (fun G5 hle5 hfz5 back5 thaw5 => ?_)
      have hrow_5 := Sl.Frm.has_mono hrow hle5
      have hev_5 := Sl.Frm.has_mono hev hle5
      refine Sl.Tr.draw (fuel := 14) (listed := [false, false, false, false, false, false, false, false, false, false, false, false, false, false]) mixed rfl rfl ?_
      refine Sl.GD.take (i := 0) rfl rfl rfl (Sl.RO.move rfl) rfl ?_
      refine Sl.GD.take (i := 1) rfl rfl rfl (Sl.RO.fieldAddr rfl fo_41_0) rfl ?_
      refine Sl.GD.take (i := 2) rfl rfl rfl (Sl.RO.load1 rfl hfz5 ly_3 rfl) rfl ?_
      refine Sl.GD.take (i := 5) rfl rfl rfl (Sl.RO.fieldAddr rfl fo_41_1) rfl ?_
      refine Sl.GD.take (i := 6) rfl rfl rfl (Sl.RO.load1 rfl hfz5 ly_3 rfl) rfl ?_
      refine Sl.GD.take (i := 9) rfl rfl rfl (Sl.RO.fieldAddr rfl fo_41_2) rfl ?_
      refine Sl.GD.take (i := 10) rfl rfl rfl (Sl.RO.load1 rfl hfz5 ly_3 rfl) rfl ?_
      refine Sl.GD.call (i := 3) rfl rfl rfl rfl rfl .n (.c (.c .n)) .n (fun G' hle hhas => ref_put _ e.kind 1 (by decide)) rfl (fun v K hR => ?_)
      obtain ⟨rfl, rfl⟩ := hR
      refine Sl.GD.app .n ?_
      have g1 := putL_len e.kind 1
      have g2 := putL_len e.id 2
      have g3 := putL_len e.n 4
      refine Sl.GD.take (i := 4) rfl rfl rfl (Sl.RO.concat rfl rfl (by simp only [List.length_append]; omega)) rfl ?_
      refine Sl.GD.call (i := 7) rfl rfl rfl rfl rfl .n (.c (.c .n)) .n (fun G' hle hhas => ref_put _ e.id 2 (by decide)) rfl (fun v K hR => ?_)
      obtain ⟨rfl, rfl⟩ := hR
      refine Sl.GD.app .n ?_
      refine Sl.GD.take (i := 8) rfl rfl rfl (Sl.RO.concat rfl rfl (by simp only [List.length_append]; omega)) rfl ?_
      refine Sl.GD.call (i := 11) rfl rfl rfl rfl rfl .n (.c (.c .n)) .n (fun G' hle hhas => ref_put _ e.n 4 (by decide)) rfl (fun v K hR => ?_)
      obtain ⟨rfl, rfl⟩ := hR
      refine Sl.GD.app .n ?_
      refine Sl.GD.take (i := 12) rfl rfl rfl (Sl.RO.concat rfl rfl (by simp only [List.length_append]; omega)) rfl ?_
      refine Sl.GD.take (i := 13) rfl rfl rfl (Sl.RO.assign rfl) rfl ?_
      refine Sl.GD.done rfl (back5 _ _ _ _ _ _ ?_)
      refine Post.as 3 (str (bytesB (l.take i) ++ putL r.err 1 ++ putL ((min r.ev.length 255 : Nat) : Int) 1 ++ evsB (r.ev.take (k + 1)))) rfl ?_ ?_
      · rw [evsB_take he]; simp [evB, List.append_assoc]
      refine Sl.Post.blockN ?_
      refine Sl.Post.thenN ?_
      refine Sl.Tr.region ?_
      refine Sl.G.ro (Sl.RO.rd (Sl.RO.move rfl)) rfl ?_
      refine Sl.G.ro (Sl.RO.rd (Sl.RO.addI rfl rfl (by omega))) rfl ?_
      refine Sl.G.ro (Sl.RO.rd (Sl.RO.assign rfl)) rfl ?_
      refine Sl.G.nil ?_
      refine Sl.Post.again (k + 1) ?_ ?_ ?_ ?_ ?_
      · omega
      · omega
      · exact ⟨rfl, rfl, trivial⟩
      · exact ⟨rfl, rfl, rfl, rfl, rfl, rfl, rfl, rfl, rfl, rfl, rfl, rfl, rfl, rfl, rfl, rfl, rfl, rfl, rfl, rfl, rfl, rfl, rfl, rfl, rfl, trivial⟩
      · exact .o
    · have : k = min r.ev.length 255 := by omega
      subst this
      refine Post.as 3 (str (bytesB (l.take (i + 1)))) rfl ?_ ?_
      · rw [bytesB_take hr, take_min255]; simp [repB, List.append_assoc]
      skip
      refine Sl.Post.again (i + 1) ?_ ?_ ?_ ?_ ?_
      · omega
      · omega
      · exact ⟨rfl, rfl, trivial⟩
      · exact ⟨rfl, rfl, trivial⟩
      · exact .o
  · have : i = l.length := by omega
    subst this
    refine Sl.Post.fin rfl (.tmp rfl .nil) rfl .n ?_ (.inl rfl)
    simp
end Go.Proofs.YtcaojfapibkplaaGreatDoor
namespace Go.Proofs.YtcaojfapibkplaaGreatDoor
open Go Go.Sl Go.En

theorem script_Bytes (F : Frm) (p : Option Addr) (c : Nat) (l : List RepV) (hv : RepsE F p c l) (hl : (bytesB l).length ≤ 890000) (hl2 : l.length ≤ 1000000) :
    FnOk Tryz.prog 8 [.slice p l.length c] [] F (fun r H => r = str (bytesB l) ∧ H = []) := by
  obtain ⟨T1, hrow⟩ := hv.row
  refine Sl.FnOk.of (κ := [(0, _)]) Go.Proofs.Tryz.func8 rfl rfl Go.Proofs.Tryz.ntmps8 rfl rfl ?_
  refine Sl.Tr.seq ?_
  refine Sl.Tr.region ?_
  refine Sl.G.ro (Sl.RO.rd (Sl.RO.assign rfl)) rfl ?_
  refine Sl.G.nil ?_
  refine Sl.Post.thenN ?_
  refine Sl.Tr.seq ?_
  refine Sl.Tr.region ?_
  refine Sl.G.alloc zv_45 rfl (fun b0 => ?_)
  refine Sl.G.nil ?_
  refine Sl.Post.thenN ?_
  refine Sl.Tr.seq ?_
  refine Sl.Tr.region ?_
  refine Sl.G.ro (Sl.RO.rd (Sl.RO.makeFunc rfl rfl)) rfl ?_
  refine Sl.G.ro (Sl.RO.rd (Sl.RO.assign rfl)) rfl ?_
  refine Sl.G.nil ?_
  refine Sl.Post.thenN ?_
  refine Sl.Tr.seq ?_
  refine Sl.Tr.seq ?_
  refine Sl.Tr.region ?_
  refine Sl.G.ro (Sl.RO.rd (Sl.RO.move rfl)) rfl ?_
  refine Sl.G.ro (Sl.RO.rd (Sl.RO.lenSl rfl sl_22)) rfl ?_
  refine Sl.G.ro (Sl.RO.rd (Sl.RO.move rfl)) rfl ?_
  refine Sl.G.nil ?_
  refine Sl.Post.thenN ?_
  refine Sl.Tr.block ?_
  refine Sl.Tr.nilS 5 1 by8 ?_
  refine Sl.Tr.loop (α := Nat × Option Addr × Option Addr × Nat × List UInt8) (fun g => [(13, .int .i64 (g.1 : Nat))]) [(12, _), (11, _), (4, _), (10, _), (3, _), (2, _), (0, _)] (fun g => [pt b0 (cl [.pointer g.2.1, .slice g.2.2.1 g.2.2.2.2.length g.2.2.2.1] 45), sA 5 1 by8 g.2.2.1 g.2.2.2.1 g.2.2.2.2]) [] (fun g => g.1 ≤ l.length ∧ (g.2.1 = none ∨ g.2.1 = some ⟨b0, 0, none⟩) ∧ g.2.2.2.2 = bytesB (l.take g.1) ∧ (g.2.2.2.2 = [] → g.2.2.1 = none)) (fun g => l.length - g.1) ((0, none, none, 0, [])) ?_ ⟨rfl, trivial⟩ ⟨rfl, rfl, rfl, rfl, rfl, rfl, rfl, trivial⟩ (.p (.t .h) (.p .h .o)) ?_
  · exact ⟨Nat.zero_le _, .inl rfl, rfl, fun _ => rfl⟩
  rintro ⟨i, q, p1, c1, s⟩ ⟨hi, hq, hs, hn⟩
  dsimp only [List.cons_append, List.nil_append]
  (try dsimp only at *)
  subst hs
  have hB := Nat.le_trans (bytesB_take_len l i) hl
  have hlt : (l.take i).length ≤ l.length := by simp; omega
  refine Sl.Tr.seq ?_
  refine Sl.Tr.region ?_
  refine Sl.G.cmp (Sl.RO.lss rfl rfl) rfl (fun hc1 => ?_) (fun hc1 => ?_)
  refine Sl.G.nil ?_
  refine Sl.Post.thenN ?_
  refine Sl.Tr.seq ?_
  refine Sl.Tr.condT rfl ?_
  refine Sl.Tr.skip ?_
  refine Sl.Post.thenN ?_
  refine Sl.Tr.seq ?_
  refine Sl.Tr.block ?_
  refine Sl.Tr.seq ?_
  refine Sl.Tr.region ?_
  rotate_left
  refine Sl.G.nil ?_
  refine Sl.Post.thenN ?_
  refine Sl.Tr.seq ?_
  refine Sl.Tr.condF rfl ?_
  refine Sl.Tr.exit ?_
  refine Sl.Post.thenE ?_
  refine Sl.Post.thenE ?_
  refine Sl.Post.blockE ?_
  refine Sl.Post.thenN ?_
  refine Sl.Tr.seq ?_
  refine Sl.Tr.region ?_
  rotate_left
  · obtain ⟨r, hr⟩ := get_lt (l := l) (i := i) (by omega)
    obtain ⟨⟨T2, hev⟩, hel⟩ := hv.evs r (List.mem_of_getElem? hr)
    refine Sl.G.ro (Sl.RO.rd (Sl.RO.atEl rfl rfl sl_22 hrow (by assumption))) rfl ?_
    refine Sl.G.ro (Sl.RO.rd (Sl.RO.loadEp rfl hrow (by assumption) ly_27 rfl)) rfl ?_
    refine Sl.G.alloc zv_27 rfl (fun b2 => ?_)
    refine Sl.G.store rfl rfl rfl rfl ly_27 rfl .h rfl ?_
    refine Sl.G.nil ?_
    refine Sl.Post.thenN ?_
    refine Sl.Tr.seq ?_
    refine Sl.Tr.region ?_
    refine Sl.G.ro (Sl.RO.rd (Sl.RO.fieldAddr rfl fo_27_1)) rfl ?_
    refine Sl.G.ro (Sl.RD.load1 rfl .h ly_25 rfl) rfl ?_
    refine Sl.G.ro (Sl.RO.rd (Sl.RO.lenSl rfl sl_25)) rfl ?_
    refine Sl.G.ro (Sl.RO.rd (Sl.RO.min2 rfl rfl)) rfl ?_
    refine Sl.G.ro (Sl.RO.rd (Sl.RO.assign rfl)) rfl ?_
    refine Sl.G.nil ?_
    refine Sl.Post.thenN ?_
    refine Sl.Tr.seq ?_
    refine Sl.Tr.region ?_
    refine Sl.G.ro (Sl.RO.rd (Sl.RO.move rfl)) rfl ?_
    refine Sl.G.ro (Sl.RO.rd (Sl.RO.fieldAddr rfl fo_27_0)) rfl ?_
    refine Sl.G.ro (Sl.RD.load1 rfl .h ly_24 rfl) rfl ?_
    have e1 := putL_len r.err 1
    have e2 := putL_len ((min r.ev.length 255 : Nat) : Int) 1
    refine G.as 7 (.int .i64 (min r.ev.length 255 : Nat)) rfl (by congr 1; omega) ?_
    refine Sl.G.call rfl rfl .n (.c (.c (.c .n))) (.p (.t .h) (.p (.t .h) .n)) (fun G' hle hhas => script_put _ b0 q p1 c1 (bytesB (l.take i)) r.err 1 hq (by omega) (by decide)) rfl (fun v K hR => ?_)
    obtain ⟨rfl, q2, p2, c2, hq2, rfl⟩ := hR
    refine Sl.G.app (.c (.c .n)) ?_
    refine Sl.G.nil ?_
    refine Sl.Post.thenN ?_
    refine Sl.Tr.seq ?_
    refine Sl.Tr.region ?_
    refine Sl.G.ro (Sl.RO.rd (Sl.RO.move rfl)) rfl ?_
    refine Sl.G.ro (Sl.RO.rd (Sl.RO.move rfl)) rfl ?_
    refine Sl.G.call rfl rfl .n (.c (.c (.c .n))) (.p .h (.p .h .n)) (fun G' hle hhas => script_put _ b0 q2 p2 c2 (bytesB (l.take i) ++ putL r.err 1) ((min r.ev.length 255 : Nat) : Int) 1 hq2 (by simp only [List.length_append]; omega) (by decide)) rfl (fun v K hR => ?_)
    obtain ⟨rfl, q3, p3, c3, hq3, rfl⟩ := hR
    refine Sl.G.app (.c (.c .n)) ?_
    refine Sl.G.nil ?_
    refine Sl.Post.thenN ?_
    refine Sl.Tr.seq ?_
    refine Sl.Tr.region ?_
    refine Sl.G.ro (Sl.RO.rd (Sl.RO.fieldAddr rfl fo_27_1)) rfl ?_
    refine Sl.G.ro (Sl.RD.load1 rfl (.t (.t .h)) ly_25 rfl) rfl ?_
    refine Sl.G.ro (Sl.RO.rd (Sl.RO.move rfl)) rfl ?_
    refine Sl.G.ro (Sl.RO.rd (Sl.RO.sliceToF rfl rfl sl_25 hev (by omega))) rfl ?_
    refine Sl.G.ro (Sl.RO.rd (Sl.RO.lenSl rfl sl_25)) rfl ?_
    refine Sl.G.ro (Sl.RO.rd (Sl.RO.move rfl)) rfl ?_
    refine Sl.G.nil ?_
    refine Sl.Post.thenN ?_
    refine Sl.Tr.block ?_
    have hev2 := Frm.has_take (j := 255) hev
    clear hev
    have hlen : (r.ev.take 255).length = min r.ev.length 255 := by simp; omega
    refine Tr.as 31 (.slice r.p (r.ev.take 255).length r.c) rfl (by rw [hlen]) ?_
    refine Sl.Tr.loop (α := Nat × Option Addr × Option Addr × Nat × List UInt8) (fun g => [(33, .int .i64 (g.1 : Nat))]) [(31, _), (32, _), (30, _), (29, _), (28, _), (27, _), (26, _), (25, _), (24, _), (7, _), (23, _), (22, _), (21, _), (20, _), (19, _), (18, _), (17, _), (6, _), (16, _), (15, _), (14, _), (13, _), (12, _), (11, _), (4, _), (10, _), (3, _), (2, _), (0, _)] (fun g => [pt b0 (cl [.pointer g.2.1, .slice g.2.2.1 g.2.2.2.2.length g.2.2.2.1] 45), sA 5 1 by8 g.2.2.1 g.2.2.2.1 g.2.2.2.2]) [_] (fun g => g.1 ≤ min r.ev.length 255 ∧ (g.2.1 = none ∨ g.2.1 = some ⟨b0, 0, none⟩) ∧ g.2.2.2.2 = bytesB (l.take i) ++ putL r.err 1 ++ putL ((min r.ev.length 255 : Nat) : Int) 1 ++ evsB (r.ev.take g.1)) (fun g => min r.ev.length 255 - g.1) ((0, q3, p3, c3, bytesB (l.take i) ++ putL r.err 1 ++ putL ((min r.ev.length 255 : Nat) : Int) 1)) ?_ ⟨rfl, trivial⟩ ⟨rfl, rfl, rfl, rfl, rfl, rfl, rfl, rfl, rfl, rfl, rfl, rfl, rfl, rfl, rfl, rfl, rfl, rfl, rfl, rfl, rfl, rfl, rfl, rfl, rfl, rfl, rfl, rfl, rfl, trivial⟩ (.p .h (.p .h (.p .h .o))) ?_
    · exact ⟨Nat.zero_le _, hq3, by simp [evsB]⟩
    rintro ⟨k, q4, p4, c4, s⟩ ⟨hk, hq4, hs⟩
    dsimp only [List.cons_append, List.nil_append]
    (try dsimp only at *)
    have hE := evsB_len (r.ev.take k)
    have hE2 : (r.ev.take k).length = k := by simp; omega
    have hsl : s.length ≤ 896000 := by subst hs; simp only [List.length_append]; omega
    refine Sl.Tr.seq ?_
    refine Sl.Tr.region ?_
    refine Sl.G.cmp (Sl.RO.lss rfl rfl) rfl (fun hc3 => ?_) (fun hc3 => ?_)
    refine Sl.G.nil ?_
    refine Sl.Post.thenN ?_
    refine Sl.Tr.seq ?_
    refine Sl.Tr.condT rfl ?_
    refine Sl.Tr.skip ?_
    refine Sl.Post.thenN ?_
    refine Sl.Tr.seq ?_
    refine Sl.Tr.block ?_
    refine Sl.Tr.seq ?_
    refine Sl.Tr.region ?_
    rotate_left
    refine Sl.G.nil ?_
    refine Sl.Post.thenN ?_
    refine Sl.Tr.seq ?_
    refine Sl.Tr.condF rfl ?_
    refine Sl.Tr.exit ?_
    refine Sl.Post.thenE ?_
    refine Sl.Post.thenE ?_
    refine Sl.Post.blockE ?_
    refine Sl.Post.blockN ?_
    refine Sl.Post.thenN ?_
    refine Sl.Tr.region ?_
    refine Sl.G.ro (Sl.RO.rd (Sl.RO.addI rfl rfl (by omega))) rfl ?_
    refine Sl.G.ro (Sl.RO.rd (Sl.RO.move rfl)) rfl ?_
    refine Sl.G.nil ?_
    rotate_left
    · obtain ⟨e, he⟩ := get_lt (l := r.ev.take 255) (i := k) (by omega)
      have g1 := putL_len e.kind 1
      have g2 := putL_len e.id 2
      have he' : r.ev[k]? = some e := by
        rw [List.getElem?_take] at he
        rw [if_pos (by omega)] at he; exact he
      refine Sl.G.ro (Sl.RO.rd (Sl.RO.atEl rfl rfl sl_25 hev2 (by assumption))) rfl ?_
      refine Sl.G.ro (Sl.RO.rd (Sl.RO.loadEp rfl hev2 (by assumption) ly_41 rfl)) rfl ?_
      refine Sl.G.alloc zv_41 rfl (fun b4 => ?_)
      refine Sl.G.store rfl rfl rfl rfl ly_41 rfl .h rfl ?_
      refine Sl.G.nil ?_
      refine Sl.Post.thenN ?_
      refine Sl.Tr.seq ?_
      refine Sl.Tr.region ?_
      refine Sl.G.ro (Sl.RO.rd (Sl.RO.move rfl)) rfl ?_
      refine Sl.G.ro (Sl.RO.rd (Sl.RO.fieldAddr rfl fo_41_0)) rfl ?_
      refine Sl.G.ro (Sl.RD.load1 rfl .h ly_3 rfl) rfl ?_
      refine Sl.G.call rfl rfl .n (.c (.c (.c .n))) (.p (.t .h) (.p (.t .h) .n)) (fun G' hle hhas => script_put _ b0 q4 p4 c4 s e.kind 1 hq4 (by omega) (by decide)) rfl (fun v K hR => ?_)
      obtain ⟨rfl, q5, p5, c5, hq5, rfl⟩ := hR
      refine Sl.G.app (.c (.c .n)) ?_
      refine Sl.G.nil ?_
      refine Sl.Post.thenN ?_
      refine Sl.Tr.seq ?_
      refine Sl.Tr.region ?_
      refine Sl.G.ro (Sl.RO.rd (Sl.RO.move rfl)) rfl ?_
      refine Sl.G.ro (Sl.RO.rd (Sl.RO.fieldAddr rfl fo_41_1)) rfl ?_
      refine Sl.G.ro (Sl.RD.load1 rfl (.t (.t .h)) ly_3 rfl) rfl ?_
      refine Sl.G.call rfl rfl .n (.c (.c (.c .n))) (.p .h (.p .h .n)) (fun G' hle hhas => script_put _ b0 q5 p5 c5 (s ++ putL e.kind 1) e.id 2 hq5 (by simp only [List.length_append]; omega) (by decide)) rfl (fun v K hR => ?_)
      obtain ⟨rfl, q6, p6, c6, hq6, rfl⟩ := hR
      refine Sl.G.app (.c (.c .n)) ?_
      refine Sl.G.nil ?_
      refine Sl.Post.thenN ?_
      refine Sl.Tr.region ?_
      refine Sl.G.ro (Sl.RO.rd (Sl.RO.move rfl)) rfl ?_
      refine Sl.G.ro (Sl.RO.rd (Sl.RO.fieldAddr rfl fo_41_2)) rfl ?_
      refine Sl.G.ro (Sl.RD.load1 rfl (.t (.t .h)) ly_3 rfl) rfl ?_
      refine Sl.G.call rfl rfl .n (.c (.c (.c .n))) (.p .h (.p .h .n)) (fun G' hle hhas => script_put _ b0 q6 p6 c6 (s ++ putL e.kind 1 ++ putL e.id 2) e.n 4 hq6 (by simp only [List.length_append]; omega) (by decide)) rfl (fun v K hR => ?_)
      obtain ⟨rfl, q7, p7, c7, hq7, rfl⟩ := hR
      refine Sl.G.app (.c (.c .n)) ?_
      refine Sl.G.nil ?_
      refine Sl.Post.blockN ?_
      refine Sl.Post.thenN ?_
      refine Sl.Tr.region ?_
      refine Sl.G.ro (Sl.RO.rd (Sl.RO.addI rfl rfl (by omega))) rfl ?_
      refine Sl.G.ro (Sl.RO.rd (Sl.RO.move rfl)) rfl ?_
      refine Sl.G.nil ?_
      refine Sl.Post.again ((k + 1, q7, p7, c7, s ++ putL e.kind 1 ++ putL e.id 2 ++ putL e.n 4)) ?_ ?_ ?_ ?_ ?_
      rotate_left
      · omega
      · exact ⟨rfl, trivial⟩
      · exact ⟨rfl, rfl, rfl, rfl, rfl, rfl, rfl, rfl, rfl, rfl, rfl, rfl, rfl, rfl, rfl, rfl, rfl, rfl, rfl, rfl, rfl, rfl, rfl, rfl, rfl, rfl, rfl, rfl, rfl, trivial⟩
      · exact (.p .h (.p .h (.p (.t .h) .o)))
      exact ⟨by omega, hq7, by rw [hs, evsB_take he']; simp [evB, List.append_assoc]⟩
    · have : k = min r.ev.length 255 := by omega
      subst this
      have hs' : s = bytesB (l.take (i + 1)) := by rw [bytesB_take hr, hs, take_min255]; simp [repB, List.append_assoc]
      refine Sl.Post.again ((i + 1, q4, p4, c4, s)) ?_ ?_ ?_ ?_ ?_
      rotate_left
      · omega
      · exact ⟨rfl, trivial⟩
      · exact ⟨rfl, rfl, rfl, rfl, rfl, rfl, rfl, trivial⟩
      · exact (.p .h (.p .h .o))
      refine ⟨by omega, hq4, hs', fun h0 => ?_⟩
      rw [hs] at h0
      have := congrArg List.length h0
      simp only [List.length_append, List.length_nil] at this
      omega
  · have : i = l.length := by omega
    subst this
    refine Sl.G.call rfl rfl .n (.c .n) (.p .h (.p .h .n)) (fun G' hle hhas => bString _ b0 q p1 c1 _ (by omega) hn) rfl (fun v K hR => ?_)
    obtain ⟨rfl, rfl⟩ := hR
    refine Sl.G.app .n ?_
    refine Sl.G.ro (Sl.RO.rd (Sl.RO.assign rfl)) rfl ?_
    refine Sl.G.nil ?_
    refine Sl.Post.thenN ?_
    refine Sl.Tr.ret ?_
    refine Sl.Post.fin rfl (.tmp rfl .nil) rfl .n ?_ (.inl rfl)
    simp
end Go.Proofs.YtcaojfapibkplaaGreatDoor
namespace Go.Proofs.YtcaojfapibkplaaGreatDoor
open Go Go.Sl Go.En

abbrev RepV.evA (T : Nat) (r : RepV) : Assn := sA T 3 En.Event.cells r.p r.c r.ev
abbrev RepV.pure (r : RepV) : Int × List En.Event := (r.err, r.ev)
def evAt (l : List UInt8) : En.Event := ⟨num (l.take 1), num ((l.drop 1).take 2), num ((l.drop 3).take 4)⟩
def evsOf (n : Nat) (l : List UInt8) : List En.Event := (List.range n).map fun k => evAt (l.drop (7 * k))
theorem evsOf_succ (n : Nat) (l : List UInt8) : evsOf (n + 1) l = evsOf n l ++ [evAt (l.drop (7 * n))] := by simp [evsOf, List.range_succ]
theorem evsOf_len (n : Nat) (l : List UInt8) : (evsOf n l).length = n := by simp [evsOf]
/-- Replies of bytes, so many at most. -/
def parseF : Nat → List UInt8 → Option (List (Int × List En.Event))
  | _, [] => some []
  | 0, _ => none
  | _ + 1, [_] => none
  | f + 1, a :: b :: r => if r.length < 7 * b.toNat then none else (parseF f (r.drop (7 * b.toNat))).map fun l => ((a.toNat : Int), evsOf b.toNat r) :: l
theorem parseF_more : ∀ (f g : Nat) (s : List UInt8), s.length ≤ f → s.length ≤ g → parseF f s = parseF g s
  | 0, 0, [], _, _ => rfl
  | 0, g + 1, [], _, _ => rfl
  | f + 1, 0, [], _, _ => rfl
  | f + 1, g + 1, [], _, _ => rfl
  | 0, _, _ :: _, h, _ => by simp at h
  | _ + 1, 0, _ :: _, _, h => by simp at h
  | f + 1, g + 1, [_], _, _ => rfl
  | f + 1, g + 1, a :: b :: r, h1, h2 => by
    simp only [parseF]
    split
    · rfl
    · rw [parseF_more f g _ (by simp at h1 ⊢; omega) (by simp at h2 ⊢; omega)]
def parse (s : List UInt8) : Option (List (Int × List En.Event)) := parseF s.length s
theorem parse_nil : parse [] = some [] := rfl
theorem parse_one (a : UInt8) : parse [a] = none := rfl
theorem parse_short (a b : UInt8) (r : List UInt8) (h : r.length < 7 * b.toNat) : parse (a :: b :: r) = none := by simp [parse, parseF, h]
theorem parse_cons (a b : UInt8) (r : List UInt8) (h : ¬ r.length < 7 * b.toNat) : parse (a :: b :: r) = (parse (r.drop (7 * b.toNat))).map fun l => ((a.toNat : Int), evsOf b.toNat r) :: l := by
  simp only [parse, List.length_cons, parseF, if_neg h]
  rw [parseF_more (r.length + 1) _ _ (by simp; omega) (Nat.le_refl _)]

/-- What comes of Replies. -/
def RepsR (T : Nat × Nat) (s : List UInt8) (r : Value) (H : List Assn) : Prop :=
  (∃ p c l, r = .tuple #[.slice p l.length c, .int .i64 0] ∧ H = [sA T.1 2 RepV.cells p c l, sep (l.map (RepV.evA T.2))] ∧ parse s = some (l.map RepV.pure)) ∨
  (parse s = none ∧ r = .tuple #[.slice none 0 0, .int .i64 11] ∧ H = [])

theorem script_Replies (F : Frm) (s : List UInt8) (hl : s.length ≤ 1000000) : FnOk Tryz.prog 6 [str s] [] F (RepsR (27, 41) s) := by
  refine Sl.FnOk.of (κ := [(0, _)]) Go.Proofs.Tryz.func6 rfl rfl Go.Proofs.Tryz.ntmps6 rfl rfl ?_
  refine Sl.Tr.seq ?_
  refine Sl.Tr.region ?_
  refine Sl.G.ro (Sl.RO.rd (Sl.RO.assign rfl)) rfl ?_
  refine Sl.G.ro (Sl.RO.rd (Sl.RO.assign rfl)) rfl ?_
  refine Sl.G.nil ?_
  refine Sl.Post.thenN ?_
  refine Sl.Tr.seq ?_
  refine Sl.Tr.region ?_
  refine Sl.G.ro (Sl.RO.rd (Sl.RO.assign rfl)) rfl ?_
  refine Sl.G.nil ?_
  refine Sl.Post.thenN ?_
  refine Sl.Tr.seq ?_
  refine Sl.Tr.block ?_
  refine Sl.Tr.nilS 27 2 RepV.cells ?_
  refine Tr.mem (fun h => Sat.sep_nil h) ?_
  refine Sl.Tr.loop (α := List UInt8 × List RepV × Option Addr × Nat) (fun g => [(0, str g.1), (4, .slice g.2.2.1 g.2.1.length g.2.2.2)]) [] (fun g => [sA 27 2 RepV.cells g.2.2.1 g.2.2.2 g.2.1, sep (g.2.1.map (RepV.evA 41))]) [] (fun g => g.1.length + g.2.1.length ≤ s.length ∧ parse s = (parse g.1).map (fun t => g.2.1.map RepV.pure ++ t)) (fun g => g.1.length) ((s, [], none, 0)) ?_ ⟨rfl, rfl, trivial⟩ trivial (.p (.t .h) (.p .h .o)) ?_
  · exact ⟨by simp, by simp⟩
  rintro ⟨s', out, p, c⟩ ⟨hs, hp⟩
  dsimp only [List.cons_append, List.nil_append]
  (try dsimp only at *)
  refine Sl.Tr.seq ?_
  refine Sl.Tr.seq ?_
  refine Sl.Tr.region ?_
  refine Sl.G.ro (Sl.RO.rd (Sl.RO.move rfl)) rfl ?_
  refine Sl.G.ro (Sl.RO.rd (Sl.RO.lenStr rfl st_9)) rfl ?_
  refine Sl.G.cmp (Sl.RO.gtr rfl rfl) rfl (fun hc0 => ?_) (fun hc0 => ?_)
  refine Sl.G.nil ?_
  refine Sl.Post.thenN ?_
  refine Sl.Tr.condT rfl ?_
  refine Sl.Tr.skip ?_
  refine Sl.Post.thenN ?_
  refine Sl.Tr.block ?_
  refine Sl.Tr.seq ?_
  refine Sl.Tr.seq ?_
  refine Sl.Tr.region ?_
  refine Sl.G.ro (Sl.RO.rd (Sl.RO.move rfl)) rfl ?_
  refine Sl.G.ro (Sl.RO.rd (Sl.RO.lenStr rfl st_9)) rfl ?_
  refine Sl.G.cmp (Sl.RO.lss rfl rfl) rfl (fun hc1 => ?_) (fun hc1 => ?_)
  refine Sl.G.ro (Sl.RO.rd (Sl.RO.move rfl)) rfl ?_
  refine Sl.G.pass rfl rfl ?_
  refine Sl.G.pass rfl rfl ?_
  refine Sl.G.pass rfl rfl ?_
  refine Sl.G.pass rfl rfl ?_
  refine Sl.G.pass rfl rfl ?_
  refine Sl.G.pass rfl rfl ?_
  refine Sl.G.pass rfl rfl ?_
  refine Sl.G.pass rfl rfl ?_
  refine Sl.G.ro (Sl.RO.rd (Sl.RO.pickT rfl rfl)) rfl ?_
  refine Sl.G.nil ?_
  refine Sl.Post.thenN ?_
  refine Sl.Tr.condT rfl ?_
  refine Sl.Tr.seq ?_
  refine Sl.Tr.region ?_
  refine Sl.G.ro (Sl.RO.rd (Sl.RO.assign rfl)) rfl ?_
  refine Sl.G.ro (Sl.RO.rd (Sl.RO.assign rfl)) rfl ?_
  refine Sl.G.nil ?_
  refine Sl.Post.thenN ?_
  refine Sl.Tr.ret ?_
  refine Sl.Post.thenR ?_
  refine Sl.Post.blockR ?_
  refine Sl.Post.thenR ?_
  refine Sl.Post.blockR ?_
  refine Sl.Post.thenR ?_
  rotate_left
  refine Sl.G.ro (Sl.RO.rd (Sl.RO.move rfl)) rfl ?_
  refine Sl.G.un rfl ?_
  refine Sl.G.ro (Sl.RO.rd (Sl.RO.move rfl)) rfl ?_
  refine Sl.G.un rfl ?_
  refine Sl.G.ro (Sl.RO.rd (Sl.RO.lenStr rfl st_9)) rfl ?_
  refine Sl.G.un rfl ?_
  refine Sl.G.ro (Sl.RO.rd (Sl.RO.subI rfl rfl (by omega))) rfl ?_
  refine Sl.G.un rfl ?_
  refine Sl.G.ro (Sl.RO.rd (Sl.RO.move rfl)) rfl ?_
  refine Sl.G.un rfl ?_
  rotate_left
  refine Sl.G.nil ?_
  refine Sl.Post.thenN ?_
  refine Sl.Tr.condF rfl ?_
  refine Sl.Tr.exit ?_
  refine Sl.Post.thenE ?_
  refine Sl.Post.thenE ?_
  refine Sl.Post.blockE ?_
  refine Sl.Post.thenN ?_
  refine Sl.Tr.seq ?_
  refine Sl.Tr.region ?_
  refine Sl.G.ro (Sl.RO.rd (Sl.RO.move rfl)) rfl ?_
  refine Sl.G.ro (Sl.RO.rd (Sl.RO.assign rfl)) rfl ?_
  refine Sl.G.ro (Sl.RO.rd (Sl.RO.assign rfl)) rfl ?_
  refine Sl.G.nil ?_
  refine Sl.Post.thenN ?_
  refine Sl.Tr.ret ?_
  rotate_left
  · obtain ⟨x, rfl⟩ : ∃ x, s' = [x] := by
      match s', hc0, hc1 with
      | [x], _, _ => exact ⟨x, rfl⟩
      | [], h, _ => simp at h
      | _ :: _ :: _, _, h => simp at h; omega
    refine Sl.Post.fin rfl (.tmp rfl (.tmp rfl .nil)) rfl .n ?_ (.inl rfl)
    exact .inr ⟨by rw [hp, parse_one]; rfl, rfl, rfl⟩
  · obtain ⟨a, b, r, rfl⟩ : ∃ a b r, s' = a :: b :: r := by
      match s', hc0, hc1 with
      | a :: b :: r, _, _ => exact ⟨a, b, r, rfl⟩
      | [], h, _ => simp at h
      | [_], _, h => simp at h
    have h0 : (a :: b :: r)[0]? = some a := rfl
    have h1 : (a :: b :: r)[1]? = some b := rfl
    have ha := a.toNat_lt
    have hb := b.toNat_lt
    have hll : (a :: b :: r).length = r.length + 2 := rfl
    refine Sl.G.ro (Sl.RO.rd (Sl.RO.indexStrI rfl rfl st_9 h1 (by omega))) rfl ?_
    refine Sl.G.un rfl ?_
    refine Sl.G.ro (Sl.RO.rd (Sl.RO.convI64 rfl ik_5 ik_3 (by omega))) rfl ?_
    refine Sl.G.un rfl ?_
    refine Sl.G.ro (Sl.RO.rd (Sl.RO.mulI rfl rfl (by omega))) rfl ?_
    refine Sl.G.un rfl ?_
    refine Sl.G.cmp (Sl.RO.lss rfl rfl) rfl (fun hc2 => ?_) (fun hc2 => ?_)
    refine Sl.G.ro (Sl.RO.rd (Sl.RO.pickF rfl rfl)) rfl ?_
    refine Sl.G.nil ?_
    refine Sl.Post.thenN ?_
    refine Sl.Tr.condT rfl ?_
    refine Sl.Tr.seq ?_
    refine Sl.Tr.region ?_
    refine Sl.G.ro (Sl.RO.rd (Sl.RO.assign rfl)) rfl ?_
    refine Sl.G.ro (Sl.RO.rd (Sl.RO.assign rfl)) rfl ?_
    refine Sl.G.nil ?_
    refine Sl.Post.thenN ?_
    refine Sl.Tr.ret ?_
    refine Sl.Post.thenR ?_
    refine Sl.Post.blockR ?_
    refine Sl.Post.thenR ?_
    refine Sl.Post.blockR ?_
    refine Sl.Post.thenR ?_
    rotate_left
    refine Sl.G.ro (Sl.RO.rd (Sl.RO.pickF rfl rfl)) rfl ?_
    refine Sl.G.nil ?_
    refine Sl.Post.thenN ?_
    refine Sl.Tr.condF rfl ?_
    refine Sl.Tr.skip ?_
    refine Sl.Post.thenN ?_
    refine Sl.Tr.seq ?_
    refine Sl.Tr.region ?_
    refine Sl.G.ro (Sl.RO.rd (Sl.RO.move rfl)) rfl ?_
    refine Sl.G.ro (Sl.RO.rd (Sl.RO.indexStrI rfl rfl st_9 h0 (by omega))) rfl ?_
    refine Sl.G.ro (Sl.RO.rd (Sl.RO.convI64 rfl ik_5 ik_24 (by omega))) rfl ?_
    refine Sl.G.ro (Sl.RO.rd (Sl.RO.build pl_27 zv_27 rfl rfl)) rfl ?_
    refine Sl.G.alloc zv_27 rfl (fun b3 => ?_)
    refine Sl.G.store rfl rfl rfl rfl ly_27 rfl .h rfl ?_
    refine Sl.G.nil ?_
    refine Sl.Post.thenN ?_
    refine Sl.Tr.seq ?_
    refine Sl.Tr.region ?_
    refine Sl.G.ro (Sl.RO.rd (Sl.RO.move rfl)) rfl ?_
    refine Sl.G.ro (Sl.RO.rd (Sl.RO.indexStrI rfl rfl st_9 h1 (by omega))) rfl ?_
    refine Sl.G.ro (Sl.RO.rd (Sl.RO.convI64 rfl ik_5 ik_3 (by omega))) rfl ?_
    refine Sl.G.ro (Sl.RO.rd (Sl.RO.assign rfl)) rfl ?_
    refine Sl.G.nil ?_
    refine Sl.Post.thenN ?_
    refine Sl.Tr.seq ?_
    refine Sl.Tr.region ?_
    refine Sl.G.ro (Sl.RO.rd (Sl.RO.move rfl)) rfl ?_
    refine Sl.G.ro (Sl.RO.rd (Sl.RO.sliceStrFromI 2 rfl rfl st_9 ⟨by omega, by omega⟩)) rfl ?_
    refine Sl.G.ro (Sl.RO.rd (Sl.RO.assign rfl)) rfl ?_
    refine Sl.G.nil ?_
    refine Sl.Post.thenN ?_
    refine Sl.Tr.seq ?_
    refine Sl.Tr.seq ?_
    refine Sl.Tr.region ?_
    refine Sl.G.ro (Sl.RO.rd (Sl.RO.move rfl)) rfl ?_
    refine Sl.G.ro (Sl.RO.rd (Sl.RO.move rfl)) rfl ?_
    refine Sl.G.nil ?_
    refine Sl.Post.thenN ?_
    refine Sl.Tr.block ?_
    rotate_left
    · refine Sl.Post.fin rfl (.tmp rfl (.tmp rfl .nil)) rfl .n ?_ (.inl rfl)
      exact .inr ⟨by rw [hp, parse_short _ _ _ (by omega)]; rfl, rfl, rfl⟩
    · refine Sl.Tr.nilS 41 3 En.Event.cells ?_
      refine Sl.Tr.loop (α := Nat × List En.Event × Option Addr × Nat) (fun g => [(33, .int .i64 (g.1 : Nat)), (0, str (r.drop (7 * g.1)))]) [(32, _), (31, _), (30, _), (6, _), (29, _), (28, _), (27, _), (5, _), (26, _), (25, _), (24, _), (23, _), (22, _), (21, _), (20, _), (19, _), (18, _), (17, _), (16, _), (15, _), (14, _), (13, _), (12, _), (11, _), (10, _), (9, _), (8, _), (7, _), (4, _)] (fun g => [pt b3 (cl [.int .i64 a.toNat, .slice g.2.2.1 g.2.1.length g.2.2.2] 27), sA 41 3 En.Event.cells g.2.2.1 g.2.2.2 g.2.1]) [_, _] (fun g => g.1 ≤ b.toNat ∧ g.2.1 = evsOf g.1 r) (fun g => b.toNat - g.1) ((0, [], none, 0)) ?_ ⟨rfl, rfl, trivial⟩ ⟨rfl, rfl, rfl, rfl, rfl, rfl, rfl, rfl, rfl, rfl, rfl, rfl, rfl, rfl, rfl, rfl, rfl, rfl, rfl, rfl, rfl, rfl, rfl, rfl, rfl, rfl, rfl, rfl, rfl, trivial⟩ (.p (.t .h) (.p .h (.p .h (.p .h .o)))) ?_
      · exact ⟨Nat.zero_le _, rfl⟩
      rintro ⟨k, evs, p2, c2⟩ ⟨hk, he⟩
      dsimp only [List.cons_append, List.nil_append]
      (try dsimp only at *)
      have hd : (r.drop (7 * k)).length = r.length - 7 * k := by simp
      have hel : evs.length = k := by rw [he, evsOf_len]
      refine Sl.Tr.seq ?_
      refine Sl.Tr.region ?_
      refine Sl.G.cmp (Sl.RO.lss rfl rfl) rfl (fun hc4 => ?_) (fun hc4 => ?_)
      refine Sl.G.nil ?_
      refine Sl.Post.thenN ?_
      refine Sl.Tr.seq ?_
      refine Sl.Tr.condT rfl ?_
      refine Sl.Tr.skip ?_
      refine Sl.Post.thenN ?_
      refine Sl.Tr.seq ?_
      refine Sl.Tr.block ?_
      refine Sl.Tr.seq ?_
      rotate_left
      refine Sl.G.nil ?_
      refine Sl.Post.thenN ?_
      refine Sl.Tr.seq ?_
      refine Sl.Tr.condF rfl ?_
      refine Sl.Tr.exit ?_
      refine Sl.Post.thenE ?_
      refine Sl.Post.thenE ?_
      refine Sl.Post.blockE ?_
      refine Sl.Post.thenN ?_
      refine Sl.Tr.region ?_
      refine Sl.G.ro (Sl.RO.rd (Sl.RO.move rfl)) rfl ?_
      refine Sl.G.ro (Sl.RD.load rfl .h ly_27 rfl) rfl ?_
      refine Sl.G.buildSlice ap_22 rfl rfl rfl rfl rfl (fun b5 => ?_)
      rotate_left
      · refine Sl.Tr.freeze .h (fun G6 hle6 hfz6 back6 thaw6 => ?_)
        refine Sl.Tr.draw (fuel := 16) (listed := [false, false, false, false, false, false, false, false, false, false, false, false, false, false, false, false]) mixed rfl rfl ?_
        refine Sl.GD.take (i := 0) rfl rfl rfl (Sl.RO.fieldAddr rfl fo_27_1) rfl ?_
        refine Sl.GD.take (i := 1) rfl rfl rfl (Sl.RO.load1 rfl hfz6 ly_25 rfl) rfl ?_
        refine Sl.GD.take (i := 2) rfl rfl rfl (Sl.RO.move rfl) rfl ?_
        refine Sl.GD.take (i := 3) rfl rfl rfl (Sl.RO.sliceStrToI 1 rfl rfl st_9 ⟨by omega, by omega⟩) rfl ?_
        refine Sl.GD.take (i := 5) rfl rfl rfl (Sl.RO.move rfl) rfl ?_
        refine Sl.GD.take (i := 6) rfl rfl rfl (Sl.RO.sliceStrI 1 3 rfl rfl rfl st_9 ⟨by omega, by omega, by omega, by omega⟩) rfl ?_
        refine Sl.GD.take (i := 8) rfl rfl rfl (Sl.RO.move rfl) rfl ?_
        refine Sl.GD.take (i := 9) rfl rfl rfl (Sl.RO.sliceStrI 3 7 rfl rfl rfl st_9 ⟨by omega, by omega, by omega, by omega⟩) rfl ?_
        refine Sl.GD.call (i := 4) rfl rfl rfl rfl rfl .n (.c .n) .n (fun G' hle hhas => script_get _ ((r.drop (7 * k)).take 1) (by simp; omega)) rfl (fun v K hR => ?_)
        obtain ⟨rfl, rfl⟩ := hR
        refine Sl.GD.app .n ?_
        refine Sl.GD.call (i := 7) rfl rfl rfl rfl rfl .n (.c .n) .n (fun G' hle hhas => script_get _ (((r.drop (7 * k)).drop 1).take 2) (by simp; omega)) rfl (fun v K hR => ?_)
        obtain ⟨rfl, rfl⟩ := hR
        refine Sl.GD.app .n ?_
        refine Sl.GD.call (i := 10) rfl rfl rfl rfl rfl .n (.c .n) .n (fun G' hle hhas => script_get _ (((r.drop (7 * k)).drop 3).take 4) (by simp; omega)) rfl (fun v K hR => ?_)
        obtain ⟨rfl, rfl⟩ := hR
        refine Sl.GD.app .n ?_
        refine Sl.GD.take (i := 11) rfl rfl rfl (Sl.RO.build pl_41 zv_41 rfl rfl) rfl ?_
        refine Sl.GD.acts (i := 12) rfl rfl rfl (Sl.Acts.buildSlice ap_25 rfl rfl rfl rfl) rfl (fun _ _ hx => ?_) (fun _ hx => by obtain ⟨_, hx, _⟩ := hx; cases hx)
        (obtain ⟨b7, hv, rfl⟩ := hx; cases hv)
        refine Sl.GD.append1 (i := 13) (evAt (r.drop (7 * k))) Go.En.Event.el rfl rfl rfl rfl rfl ap_25 rfl (.t .h) (by omega) .h rfl rfl (fun p8 c9 => ?_)
        refine Sl.GD.take (i := 14) rfl rfl rfl (Sl.RO.fieldAddr rfl fo_27_1) rfl ?_
        refine Sl.GD.thaw (i := 15) thaw6 rfl ?_
        refine Sl.GD.store (i := 15) rfl rfl rfl rfl rfl rfl rfl ly_25 rfl .h rfl ?_
        refine Sl.GD.done rfl ?_
        refine Sl.Post.thenN ?_
        refine Sl.Tr.region ?_
        refine Sl.G.ro (Sl.RO.rd (Sl.RO.move rfl)) rfl ?_
        refine Sl.G.ro (Sl.RO.rd (Sl.RO.sliceStrFromI 7 rfl rfl st_9 ⟨by omega, by omega⟩)) rfl ?_
        refine Sl.G.ro (Sl.RO.rd (Sl.RO.assign rfl)) rfl ?_
        refine Sl.G.nil ?_
        refine Sl.Post.blockN ?_
        refine Sl.Post.thenN ?_
        refine Sl.Tr.region ?_
        refine Sl.G.ro (Sl.RO.rd (Sl.RO.addI rfl rfl (by omega))) rfl ?_
        refine Sl.G.ro (Sl.RO.rd (Sl.RO.move rfl)) rfl ?_
        refine Sl.G.nil ?_
        refine Post.as 0 (str (r.drop (7 * (k + 1)))) rfl ?_ ?_
        · rw [List.drop_drop]; rfl
        refine Sl.Post.again ((k + 1, evs ++ [evAt (r.drop (7 * k))], p8, c9)) ?_ ?_ ?_ ?_ ?_
        rotate_left
        · omega
        · exact ⟨rfl, rfl, trivial⟩
        · exact ⟨rfl, rfl, rfl, rfl, rfl, rfl, rfl, rfl, rfl, rfl, rfl, rfl, rfl, rfl, rfl, rfl, rfl, rfl, rfl, rfl, rfl, rfl, rfl, rfl, rfl, rfl, rfl, rfl, rfl, trivial⟩
        · exact (.p .h (.p .h (.p (.t .h) (.p (.t .h) .o))))
        exact ⟨by omega, by rw [he, evsOf_succ]⟩
      · obtain rfl : k = b.toNat := by omega
        refine Sl.G.append1 (⟨a.toNat, p2, c2, evs⟩) Go.Proofs.YtcaojfapibkplaaGreatDoor.RepV.el rfl rfl ap_22 rfl (.t (.t (.t .h))) (by omega) .h rfl rfl (fun p10 c11 => ?_)
        refine Sl.G.ro (Sl.RO.rd (Sl.RO.assign rfl)) rfl ?_
        refine Sl.G.nil ?_
        refine Sl.Post.blockN ?_
        refine Post.mem (fun h => Sat.sepMap (f := RepV.evA 41) (a := ⟨a.toNat, p2, c2, evs⟩) (l := out) (.t (.t .h)) (.t (.t .h)) h) ?_
        refine Sl.Post.again ((r.drop (7 * b.toNat), out ++ [RepV.mk a.toNat p2 c2 evs], p10, c11)) ?_ ?_ ?_ ?_ ?_
        rotate_left
        rotate_left
        · exact ⟨rfl, rfl, trivial⟩
        · exact trivial
        · exact (.p (.t .h) (.p .h .o))
        · refine ⟨by simp only [List.length_append, List.length_cons, List.length_nil] at hs ⊢; omega, ?_⟩
          rw [hp, parse_cons _ _ _ (by omega), he]
          simp [Option.map_map, Function.comp_def, List.append_assoc]
        · show (r.drop (7 * b.toNat)).length < (a :: b :: r).length
          omega
  · obtain rfl : s' = [] := List.eq_nil_of_length_eq_zero (by omega)
    refine Sl.Post.fin rfl (.tmp rfl (.tmp rfl .nil)) rfl (.p .h (.p .h .n)) ?_ (.inl rfl)
    exact .inl ⟨_, _, _, rfl, rfl, by rw [hp, parse_nil]; simp⟩
end Go.Proofs.YtcaojfapibkplaaGreatDoor
namespace Go.Proofs.YtcaojfapibkplaaGreatDoor
open Go Go.Sl Go.En

theorem drop_cons2 {s : List UInt8} {i : Nat} {a b : UInt8} (h0 : s[i]? = some a) (h1 : s[i + 1]? = some b) : s.drop i = a :: b :: s.drop (i + 2) := by
  obtain ⟨g0, rfl⟩ := List.getElem?_eq_some_iff.1 h0
  obtain ⟨g1, rfl⟩ := List.getElem?_eq_some_iff.1 h1
  rw [List.drop_eq_getElem_cons g0, List.drop_eq_getElem_cons g1]

theorem ref_Replies (F : Frm) (s : List UInt8) (hl : s.length ≤ 1000000) : FnOk Tryz.prog 7 [str s] [] F (RepsR (27, 41) s) := by
  refine Sl.FnOk.of (κ := [(0, _)]) Go.Proofs.Tryz.func7 rfl rfl Go.Proofs.Tryz.ntmps7 rfl rfl ?_
  refine Sl.Tr.seq ?_
  refine Sl.Tr.region ?_
  refine Sl.G.ro (Sl.RO.rd (Sl.RO.assign rfl)) rfl ?_
  refine Sl.G.ro (Sl.RO.rd (Sl.RO.assign rfl)) rfl ?_
  refine Sl.G.nil ?_
  refine Sl.Post.thenN ?_
  refine Sl.Tr.seq ?_
  refine Sl.Tr.region ?_
  refine Sl.G.ro (Sl.RO.rd (Sl.RO.assign rfl)) rfl ?_
  refine Sl.G.nil ?_
  refine Sl.Post.thenN ?_
  refine Sl.Tr.seq ?_
  refine Sl.Tr.seq ?_
  refine Sl.Tr.region ?_
  refine Sl.G.ro (Sl.RO.rd (Sl.RO.assign rfl)) rfl ?_
  refine Sl.G.nil ?_
  refine Sl.Post.thenN ?_
  refine Sl.Tr.block ?_
  refine Sl.Tr.nilS 27 2 RepV.cells ?_
  refine Tr.mem (fun h => Sat.sep_nil h) ?_
  refine Sl.Tr.loop (α := Nat × List RepV × Option Addr × Nat) (fun g => [(5, .int .i64 (g.1 : Nat)), (4, .slice g.2.2.1 g.2.1.length g.2.2.2)]) [(0, _)] (fun g => [sA 27 2 RepV.cells g.2.2.1 g.2.2.2 g.2.1, sep (g.2.1.map (RepV.evA 41))]) [] (fun g => g.1 ≤ s.length ∧ g.2.1.length ≤ g.1 ∧ parse s = (parse (s.drop g.1)).map (fun t => g.2.1.map RepV.pure ++ t)) (fun g => s.length - g.1) ((0, [], none, 0)) ?_ ⟨rfl, rfl, trivial⟩ ⟨rfl, trivial⟩ (.p (.t .h) (.p .h .o)) ?_
  · exact ⟨by simp, by simp, by simp⟩
  rintro ⟨i, out, p, c⟩ ⟨hi, ho, hp⟩
  dsimp only [List.cons_append, List.nil_append]
  (try dsimp only at *)
  refine Sl.Tr.seq ?_
  refine Sl.Tr.seq ?_
  refine Sl.Tr.region ?_
  refine Sl.G.ro (Sl.RO.rd (Sl.RO.move rfl)) rfl ?_
  refine Sl.G.ro (Sl.RO.rd (Sl.RO.move rfl)) rfl ?_
  refine Sl.G.ro (Sl.RO.rd (Sl.RO.lenStr rfl st_9)) rfl ?_
  refine Sl.G.cmp (Sl.RO.lss rfl rfl) rfl (fun hc0 => ?_) (fun hc0 => ?_)
  refine Sl.G.nil ?_
  refine Sl.Post.thenN ?_
  refine Sl.Tr.condT rfl ?_
  refine Sl.Tr.skip ?_
  refine Sl.Post.thenN ?_
  refine Sl.Tr.block ?_
  refine Sl.Tr.seq ?_
  refine Sl.Tr.seq ?_
  refine Sl.Tr.region ?_
  refine Sl.G.ro (Sl.RO.rd (Sl.RO.move rfl)) rfl ?_
  refine Sl.G.ro (Sl.RO.rd (Sl.RO.addI rfl rfl (by omega))) rfl ?_
  refine Sl.G.ro (Sl.RO.rd (Sl.RO.move rfl)) rfl ?_
  refine Sl.G.ro (Sl.RO.rd (Sl.RO.lenStr rfl st_9)) rfl ?_
  refine Sl.G.cmp (Sl.RO.gtr rfl rfl) rfl (fun hc1 => ?_) (fun hc1 => ?_)
  refine Sl.G.ro (Sl.RO.rd (Sl.RO.move rfl)) rfl ?_
  refine Sl.G.pass rfl rfl ?_
  refine Sl.G.pass rfl rfl ?_
  refine Sl.G.pass rfl rfl ?_
  refine Sl.G.pass rfl rfl ?_
  refine Sl.G.pass rfl rfl ?_
  refine Sl.G.pass rfl rfl ?_
  refine Sl.G.pass rfl rfl ?_
  refine Sl.G.pass rfl rfl ?_
  refine Sl.G.pass rfl rfl ?_
  refine Sl.G.pass rfl rfl ?_
  refine Sl.G.pass rfl rfl ?_
  refine Sl.G.pass rfl rfl ?_
  refine Sl.G.ro (Sl.RO.rd (Sl.RO.pickT rfl rfl)) rfl ?_
  refine Sl.G.nil ?_
  refine Sl.Post.thenN ?_
  refine Sl.Tr.condT rfl ?_
  refine Sl.Tr.seq ?_
  refine Sl.Tr.region ?_
  refine Sl.G.ro (Sl.RO.rd (Sl.RO.assign rfl)) rfl ?_
  refine Sl.G.ro (Sl.RO.rd (Sl.RO.assign rfl)) rfl ?_
  refine Sl.G.nil ?_
  refine Sl.Post.thenN ?_
  refine Sl.Tr.ret ?_
  refine Sl.Post.thenR ?_
  refine Sl.Post.blockR ?_
  refine Sl.Post.thenR ?_
  refine Sl.Post.blockR ?_
  refine Sl.Post.thenR ?_
  rotate_left
  refine Sl.G.ro (Sl.RO.rd (Sl.RO.move rfl)) rfl ?_
  refine Sl.G.un rfl ?_
  refine Sl.G.ro (Sl.RO.rd (Sl.RO.move rfl)) rfl ?_
  refine Sl.G.un rfl ?_
  refine Sl.G.ro (Sl.RO.rd (Sl.RO.addI rfl rfl (by omega))) rfl ?_
  refine Sl.G.un rfl ?_
  refine Sl.G.ro (Sl.RO.rd (Sl.RO.move rfl)) rfl ?_
  refine Sl.G.un rfl ?_
  refine Sl.G.ro (Sl.RO.rd (Sl.RO.move rfl)) rfl ?_
  refine Sl.G.un rfl ?_
  refine Sl.G.ro (Sl.RO.rd (Sl.RO.addI rfl rfl (by omega))) rfl ?_
  refine Sl.G.un rfl ?_
  rotate_left
  refine Sl.G.nil ?_
  refine Sl.Post.thenN ?_
  refine Sl.Tr.condF rfl ?_
  refine Sl.Tr.exit ?_
  refine Sl.Post.thenE ?_
  refine Sl.Post.thenE ?_
  refine Sl.Post.blockE ?_
  refine Sl.Post.thenN ?_
  refine Sl.Tr.seq ?_
  refine Sl.Tr.region ?_
  refine Sl.G.ro (Sl.RO.rd (Sl.RO.move rfl)) rfl ?_
  refine Sl.G.ro (Sl.RO.rd (Sl.RO.assign rfl)) rfl ?_
  refine Sl.G.ro (Sl.RO.rd (Sl.RO.assign rfl)) rfl ?_
  refine Sl.G.nil ?_
  refine Sl.Post.thenN ?_
  refine Sl.Tr.ret ?_
  rotate_left
  · have hd : (s.drop i).length = s.length - i := by simp
    obtain ⟨x, hx⟩ : ∃ x, s.drop i = [x] := by
      match hh : s.drop i with
      | [x] => exact ⟨x, rfl⟩
      | [] => rw [hh] at hd; simp at hd; omega
      | _ :: _ :: _ => rw [hh] at hd; simp at hd; omega
    refine Sl.Post.fin rfl (.tmp rfl (.tmp rfl .nil)) rfl .n ?_ (.inl rfl)
    exact .inr ⟨by rw [hp, hx, parse_one]; rfl, rfl, rfl⟩
  · obtain ⟨a, h0⟩ := get_lt (l := s) (i := i) (by omega)
    obtain ⟨b, h1⟩ := get_lt (l := s) (i := i + 1) (by omega)
    have hdr := drop_cons2 h0 h1
    have hrl : (s.drop (i + 2)).length = s.length - (i + 2) := by simp
    have ha := a.toNat_lt
    have hb := b.toNat_lt
    refine Sl.G.ro (Sl.RO.rd (Sl.RO.indexStrI rfl rfl st_9 h1 (by omega))) rfl ?_
    refine Sl.G.un rfl ?_
    refine Sl.G.ro (Sl.RO.rd (Sl.RO.convI64 rfl ik_5 ik_3 (by omega))) rfl ?_
    refine Sl.G.un rfl ?_
    refine Sl.G.ro (Sl.RO.rd (Sl.RO.mulI rfl rfl (by omega))) rfl ?_
    refine Sl.G.un rfl ?_
    refine Sl.G.ro (Sl.RO.rd (Sl.RO.addI rfl rfl (by omega))) rfl ?_
    refine Sl.G.un rfl ?_
    refine Sl.G.ro (Sl.RO.rd (Sl.RO.move rfl)) rfl ?_
    refine Sl.G.un rfl ?_
    refine Sl.G.ro (Sl.RO.rd (Sl.RO.lenStr rfl st_9)) rfl ?_
    refine Sl.G.un rfl ?_
    refine Sl.G.cmp (Sl.RO.gtr rfl rfl) rfl (fun hc2 => ?_) (fun hc2 => ?_)
    refine Sl.G.ro (Sl.RO.rd (Sl.RO.pickF rfl rfl)) rfl ?_
    refine Sl.G.nil ?_
    refine Sl.Post.thenN ?_
    refine Sl.Tr.condT rfl ?_
    refine Sl.Tr.seq ?_
    refine Sl.Tr.region ?_
    refine Sl.G.ro (Sl.RO.rd (Sl.RO.assign rfl)) rfl ?_
    refine Sl.G.ro (Sl.RO.rd (Sl.RO.assign rfl)) rfl ?_
    refine Sl.G.nil ?_
    refine Sl.Post.thenN ?_
    refine Sl.Tr.ret ?_
    refine Sl.Post.thenR ?_
    refine Sl.Post.blockR ?_
    refine Sl.Post.thenR ?_
    refine Sl.Post.blockR ?_
    refine Sl.Post.thenR ?_
    rotate_left
    refine Sl.G.ro (Sl.RO.rd (Sl.RO.pickF rfl rfl)) rfl ?_
    refine Sl.G.nil ?_
    refine Sl.Post.thenN ?_
    refine Sl.Tr.condF rfl ?_
    refine Sl.Tr.skip ?_
    refine Sl.Post.thenN ?_
    refine Sl.Tr.seq ?_
    refine Sl.Tr.region ?_
    refine Sl.G.ro (Sl.RO.rd (Sl.RO.move rfl)) rfl ?_
    refine Sl.G.ro (Sl.RO.rd (Sl.RO.move rfl)) rfl ?_
    refine Sl.G.ro (Sl.RO.rd (Sl.RO.indexStrI rfl rfl st_9 h0 (by omega))) rfl ?_
    refine Sl.G.ro (Sl.RO.rd (Sl.RO.convI64 rfl ik_5 ik_24 (by omega))) rfl ?_
    refine Sl.G.ro (Sl.RO.rd (Sl.RO.build pl_27 zv_27 rfl rfl)) rfl ?_
    refine Sl.G.alloc zv_27 rfl (fun b3 => ?_)
    refine Sl.G.store rfl rfl rfl rfl ly_27 rfl .h rfl ?_
    refine Sl.G.nil ?_
    refine Sl.Post.thenN ?_
    refine Sl.Tr.seq ?_
    refine Sl.Tr.region ?_
    refine Sl.G.ro (Sl.RO.rd (Sl.RO.move rfl)) rfl ?_
    refine Sl.G.ro (Sl.RO.rd (Sl.RO.move rfl)) rfl ?_
    refine Sl.G.ro (Sl.RO.rd (Sl.RO.addI rfl rfl (by omega))) rfl ?_
    refine Sl.G.ro (Sl.RO.rd (Sl.RO.indexStrI rfl rfl st_9 h1 (by omega))) rfl ?_
    refine Sl.G.ro (Sl.RO.rd (Sl.RO.convI64 rfl ik_5 ik_3 (by omega))) rfl ?_
    refine Sl.G.ro (Sl.RO.rd (Sl.RO.assign rfl)) rfl ?_
    refine Sl.G.nil ?_
    refine Sl.Post.thenN ?_
    refine Sl.Tr.seq ?_
    refine Sl.Tr.region ?_
    refine Sl.G.ro (Sl.RO.rd (Sl.RO.move rfl)) rfl ?_
    refine Sl.G.ro (Sl.RO.rd (Sl.RO.addI rfl rfl (by omega))) rfl ?_
    refine Sl.G.ro (Sl.RO.rd (Sl.RO.assign rfl)) rfl ?_
    refine Sl.G.nil ?_
    refine Sl.Post.thenN ?_
    refine Sl.Tr.seq ?_
    refine Sl.Tr.seq ?_
    refine Sl.Tr.region ?_
    refine Sl.G.ro (Sl.RO.rd (Sl.RO.assign rfl)) rfl ?_
    refine Sl.G.nil ?_
    refine Sl.Post.thenN ?_
    refine Sl.Tr.block ?_
    rotate_left
    · refine Sl.Post.fin rfl (.tmp rfl (.tmp rfl .nil)) rfl .n ?_ (.inl rfl)
      exact .inr ⟨by rw [hp, hdr, parse_short _ _ _ (by omega)]; rfl, rfl, rfl⟩
    · refine Sl.Tr.nilS 41 3 En.Event.cells ?_
      refine Tr.as 5 (.int .i64 ((i + 2 : Nat) : Int)) rfl (by congr 1) ?_
      refine Sl.Tr.loop (α := Nat × Nat × List En.Event × Option Addr × Nat) (fun g => [(8, .int .i64 (g.1 : Nat)), (5, .int .i64 (g.2.1 : Nat))]) [(43, _), (42, _), (7, _), (41, _), (40, _), (39, _), (38, _), (37, _), (6, _), (36, _), (35, _), (34, _), (33, _), (32, _), (31, _), (30, _), (29, _), (28, _), (27, _), (26, _), (25, _), (24, _), (23, _), (22, _), (21, _), (20, _), (19, _), (18, _), (17, _), (16, _), (15, _), (14, _), (13, _), (12, _), (11, _), (10, _), (9, _), (4, _), (0, _)] (fun g => [pt b3 (cl [.int .i64 a.toNat, .slice g.2.2.2.1 g.2.2.1.length g.2.2.2.2] 27), sA 41 3 En.Event.cells g.2.2.2.1 g.2.2.2.2 g.2.2.1]) [_, _] (fun g => g.1 ≤ b.toNat ∧ g.2.1 = i + 2 + 7 * g.1 ∧ g.2.2.1 = evsOf g.1 (s.drop (i + 2))) (fun g => b.toNat - g.1) ((0, i + 2, [], none, 0)) ?_ ⟨rfl, rfl, trivial⟩ ⟨rfl, rfl, rfl, rfl, rfl, rfl, rfl, rfl, rfl, rfl, rfl, rfl, rfl, rfl, rfl, rfl, rfl, rfl, rfl, rfl, rfl, rfl, rfl, rfl, rfl, rfl, rfl, rfl, rfl, rfl, rfl, rfl, rfl, rfl, rfl, rfl, rfl, rfl, rfl, trivial⟩ (.p (.t .h) (.p .h (.p .h (.p .h .o)))) ?_
      · exact ⟨Nat.zero_le _, rfl, rfl⟩
      rintro ⟨k, x, evs, p2, c2⟩ ⟨hk, hx, he⟩
      dsimp only [List.cons_append, List.nil_append]
      (try dsimp only at *)
      have hel : evs.length = k := by rw [he, evsOf_len]
      refine Sl.Tr.seq ?_
      refine Sl.Tr.seq ?_
      refine Sl.Tr.region ?_
      refine Sl.G.ro (Sl.RO.rd (Sl.RO.move rfl)) rfl ?_
      refine Sl.G.ro (Sl.RO.rd (Sl.RO.move rfl)) rfl ?_
      refine Sl.G.cmp (Sl.RO.lss rfl rfl) rfl (fun hc4 => ?_) (fun hc4 => ?_)
      refine Sl.G.nil ?_
      refine Sl.Post.thenN ?_
      refine Sl.Tr.condT rfl ?_
      refine Sl.Tr.skip ?_
      refine Sl.Post.thenN ?_
      refine Sl.Tr.seq ?_
      refine Sl.Tr.block ?_
      refine Sl.Tr.seq ?_
      rotate_left
      refine Sl.G.nil ?_
      refine Sl.Post.thenN ?_
      refine Sl.Tr.condF rfl ?_
      refine Sl.Tr.exit ?_
      refine Sl.Post.thenE ?_
      refine Sl.Post.thenE ?_
      refine Sl.Post.blockE ?_
      refine Sl.Post.thenN ?_
      refine Sl.Tr.region ?_
      refine Sl.G.ro (Sl.RO.rd (Sl.RO.move rfl)) rfl ?_
      refine Sl.G.ro (Sl.RD.load rfl .h ly_27 rfl) rfl ?_
      refine Sl.G.buildSlice ap_22 rfl rfl rfl rfl rfl (fun b5 => ?_)
      rotate_left
      · refine Sl.Tr.freeze .h (fun G6 hle6 hfz6 back6 thaw6 => ?_)
        refine Sl.Tr.draw (fuel := 27) (listed := [false, false, false, false, false, false, false, false, false, false, false, false, false, false, false, false, false, false, false, false, false, false, false, false, false, false, false]) mixed rfl rfl ?_
        refine Sl.GD.take (i := 0) rfl rfl rfl (Sl.RO.fieldAddr rfl fo_27_1) rfl ?_
        refine Sl.GD.take (i := 1) rfl rfl rfl (Sl.RO.load1 rfl hfz6 ly_25 rfl) rfl ?_
        refine Sl.GD.take (i := 2) rfl rfl rfl (Sl.RO.move rfl) rfl ?_
        refine Sl.GD.take (i := 3) rfl rfl rfl (Sl.RO.move rfl) rfl ?_
        refine Sl.GD.take (i := 4) rfl rfl rfl (Sl.RO.move rfl) rfl ?_
        refine Sl.GD.take (i := 5) rfl rfl rfl (Sl.RO.addI rfl rfl (by omega)) rfl ?_
        refine Sl.GD.take (i := 6) rfl rfl rfl (Sl.RO.sliceStrI (x) ((x) + 1) rfl rfl rfl st_9 ⟨by omega, by omega, by omega, by omega⟩) rfl ?_
        refine Sl.GD.take (i := 8) rfl rfl rfl (Sl.RO.move rfl) rfl ?_
        refine Sl.GD.take (i := 9) rfl rfl rfl (Sl.RO.move rfl) rfl ?_
        refine Sl.GD.take (i := 10) rfl rfl rfl (Sl.RO.addI rfl rfl (by omega)) rfl ?_
        refine Sl.GD.take (i := 11) rfl rfl rfl (Sl.RO.move rfl) rfl ?_
        refine Sl.GD.take (i := 12) rfl rfl rfl (Sl.RO.addI rfl rfl (by omega)) rfl ?_
        refine Sl.GD.take (i := 13) rfl rfl rfl (Sl.RO.sliceStrI ((x) + 1) ((x) + 3) rfl rfl rfl st_9 ⟨by omega, by omega, by omega, by omega⟩) rfl ?_
        refine Sl.GD.take (i := 15) rfl rfl rfl (Sl.RO.move rfl) rfl ?_
        refine Sl.GD.take (i := 16) rfl rfl rfl (Sl.RO.move rfl) rfl ?_
        refine Sl.GD.take (i := 17) rfl rfl rfl (Sl.RO.addI rfl rfl (by omega)) rfl ?_
        refine Sl.GD.take (i := 18) rfl rfl rfl (Sl.RO.move rfl) rfl ?_
        refine Sl.GD.take (i := 19) rfl rfl rfl (Sl.RO.addI rfl rfl (by omega)) rfl ?_
        refine Sl.GD.take (i := 20) rfl rfl rfl (Sl.RO.sliceStrI ((x) + 3) ((x) + 7) rfl rfl rfl st_9 ⟨by omega, by omega, by omega, by omega⟩) rfl ?_
        refine Sl.GD.call (i := 7) rfl rfl rfl rfl rfl .n (.c .n) .n (fun G' hle hhas => ref_number _ ((s.drop x).take (x + 1 - x)) (by simp; omega)) rfl (fun v K hR => ?_)
        obtain ⟨rfl, rfl⟩ := hR
        refine Sl.GD.app .n ?_
        refine Sl.GD.call (i := 14) rfl rfl rfl rfl rfl .n (.c .n) .n (fun G' hle hhas => ref_number _ ((s.drop (x + 1)).take (x + 3 - (x + 1))) (by simp; omega)) rfl (fun v K hR => ?_)
        obtain ⟨rfl, rfl⟩ := hR
        refine Sl.GD.app .n ?_
        refine Sl.GD.call (i := 21) rfl rfl rfl rfl rfl .n (.c .n) .n (fun G' hle hhas => ref_number _ ((s.drop (x + 3)).take (x + 7 - (x + 3))) (by simp; omega)) rfl (fun v K hR => ?_)
        obtain ⟨rfl, rfl⟩ := hR
        refine Sl.GD.app .n ?_
        refine Sl.GD.take (i := 22) rfl rfl rfl (Sl.RO.build pl_41 zv_41 rfl rfl) rfl ?_
        refine Sl.GD.acts (i := 23) rfl rfl rfl (Sl.Acts.buildSlice ap_25 rfl rfl rfl rfl) rfl (fun _ _ hx => ?_) (fun _ hx => by obtain ⟨_, hx, _⟩ := hx; cases hx)
        (obtain ⟨b7, hv, rfl⟩ := hx; cases hv)
        refine Sl.GD.append1 (i := 24) (En.Event.mk (num ((s.drop x).take (x + 1 - x))) (num ((s.drop (x + 1)).take (x + 3 - (x + 1)))) (num ((s.drop (x + 3)).take (x + 7 - (x + 3))))) Go.En.Event.el rfl rfl rfl rfl rfl ap_25 rfl (.t .h) (by omega) .h rfl rfl (fun p8 c9 => ?_)
        refine Sl.GD.take (i := 25) rfl rfl rfl (Sl.RO.fieldAddr rfl fo_27_1) rfl ?_
        refine Sl.GD.thaw (i := 26) thaw6 rfl ?_
        refine Sl.GD.store (i := 26) rfl rfl rfl rfl rfl rfl rfl ly_25 rfl .h rfl ?_
        refine Sl.GD.done rfl ?_
        refine Sl.Post.thenN ?_
        refine Sl.Tr.region ?_
        refine Sl.G.ro (Sl.RO.rd (Sl.RO.move rfl)) rfl ?_
        refine Sl.G.ro (Sl.RO.rd (Sl.RO.addI rfl rfl (by omega))) rfl ?_
        refine Sl.G.ro (Sl.RO.rd (Sl.RO.assign rfl)) rfl ?_
        refine Sl.G.nil ?_
        refine Sl.Post.blockN ?_
        refine Sl.Post.thenN ?_
        refine Sl.Tr.region ?_
        refine Sl.G.ro (Sl.RO.rd (Sl.RO.move rfl)) rfl ?_
        refine Sl.G.ro (Sl.RO.rd (Sl.RO.addI rfl rfl (by omega))) rfl ?_
        refine Sl.G.ro (Sl.RO.rd (Sl.RO.assign rfl)) rfl ?_
        refine Sl.G.nil ?_
        refine Post.as 5 (.int .i64 ((x + 7 : Nat) : Int)) rfl (by congr 1) ?_
        refine Post.as 8 (.int .i64 ((k + 1 : Nat) : Int)) rfl (by congr 1) ?_
        refine Sl.Post.again ((k + 1, x + 7, evs ++ [En.Event.mk (num ((s.drop x).take (x + 1 - x))) (num ((s.drop (x + 1)).take (x + 3 - (x + 1)))) (num ((s.drop (x + 3)).take (x + 7 - (x + 3))))], p8, c9)) ?_ ?_ ?_ ?_ ?_
        rotate_left
        · omega
        · exact ⟨rfl, rfl, trivial⟩
        · exact ⟨rfl, rfl, rfl, rfl, rfl, rfl, rfl, rfl, rfl, rfl, rfl, rfl, rfl, rfl, rfl, rfl, rfl, rfl, rfl, rfl, rfl, rfl, rfl, rfl, rfl, rfl, rfl, rfl, rfl, rfl, rfl, rfl, rfl, rfl, rfl, rfl, rfl, rfl, rfl, trivial⟩
        · exact (.p .h (.p .h (.p (.t .h) (.p (.t .h) .o))))
        dsimp only
        refine ⟨by omega, by omega, ?_⟩
        rw [he, evsOf_succ, List.drop_drop, ← hx]
        simp only [evAt, List.drop_drop]
        have q1 : x + 1 - x = 1 := by omega
        have q2 : x + 3 - (x + 1) = 2 := by omega
        have q3 : x + 7 - (x + 3) = 4 := by omega
        rw [q1, q2, q3]
      · obtain rfl : k = b.toNat := by omega
        refine Sl.G.append1 (RepV.mk a.toNat p2 c2 evs) Go.Proofs.YtcaojfapibkplaaGreatDoor.RepV.el rfl rfl ap_22 rfl (.t (.t (.t .h))) (by omega) .h rfl rfl (fun p10 c11 => ?_)
        refine Sl.G.ro (Sl.RO.rd (Sl.RO.assign rfl)) rfl ?_
        refine Sl.G.nil ?_
        refine Sl.Post.blockN ?_
        refine Post.mem (fun h => Sat.sepMap (f := RepV.evA 41) (a := RepV.mk a.toNat p2 c2 evs) (l := out) (.t (.t .h)) (.t (.t .h)) h) ?_
        refine Sl.Post.again ((x, out ++ [RepV.mk a.toNat p2 c2 evs], p10, c11)) ?_ ?_ ?_ ?_ ?_
        rotate_left
        · omega
        · exact ⟨rfl, rfl, trivial⟩
        · exact ⟨rfl, trivial⟩
        · exact (.p (.t .h) (.p .h .o))
        · refine ⟨by omega, by simp only [List.length_append, List.length_cons, List.length_nil]; omega, ?_⟩
          rw [hp, hdr, parse_cons _ _ _ (by omega), he, List.drop_drop, ← hx]
          simp [Option.map_map, Function.comp_def, List.append_assoc]
  · obtain rfl : i = s.length := by omega
    refine Sl.Post.fin rfl (.tmp rfl (.tmp rfl .nil)) rfl (.p .h (.p .h .n)) ?_ (.inl rfl)
    exact .inl ⟨_, _, _, rfl, rfl, by rw [hp, List.drop_length, parse_nil]; simp⟩
end Go.Proofs.YtcaojfapibkplaaGreatDoor
namespace Go.Proofs.YtcaojfapibkplaaGreatDoor
open Go Go.Sl Go.En

theorem eqI_event (a b : En.Event) : eqI (En.Event.cells a) (En.Event.cells b) = decide (a = b) := by
  rw [Bool.eq_iff_iff]
  cases a; cases b
  simp [eqI]

abbrev RepV.enc (r : RepV) : Value := .agg (RepV.cells r).toArray

theorem SameReply (F : Frm) (r s : RepV) (hr : F.has (RepV.evA 41 r)) (hs : F.has (RepV.evA 41 s)) (hl : r.ev.length ≤ 1000000) : FnOk Tryz.prog 18 [r.enc, s.enc] [] F (fun v H => v = .bool (decide (r.pure = s.pure)) ∧ H = []) := by
  have hr1 : F.has (sA 41 3 En.Event.cells r.p r.c r.ev) := hr
  have hs1 : F.has (sA 41 3 En.Event.cells s.p s.c s.ev) := hs
  clear hr hs
  refine Sl.FnOk.of (κ := [(0, _), (1, _)]) Go.Proofs.Tryz.func18 rfl rfl Go.Proofs.Tryz.ntmps18 rfl rfl ?_
  refine Sl.Tr.seq ?_
  refine Sl.Tr.region ?_
  refine Sl.G.box rfl rfl rfl (fun b0 => ?_)
  refine Sl.G.box rfl rfl rfl (fun b1 => ?_)
  refine Sl.G.ro (Sl.RO.rd (Sl.RO.assign rfl)) rfl ?_
  refine Sl.G.nil ?_
  refine Sl.Post.thenN ?_
  refine Sl.Tr.seq ?_
  refine Sl.Tr.seq ?_
  refine Sl.Tr.region ?_
  refine Sl.G.ro (Sl.RO.rd (Sl.RO.fieldAddr rfl fo_27_0)) rfl ?_
  refine Sl.G.ro (Sl.RD.load1 rfl (.t .h) ly_24 rfl) rfl ?_
  refine Sl.G.ro (Sl.RO.rd (Sl.RO.fieldAddr rfl fo_27_0)) rfl ?_
  refine Sl.G.ro (Sl.RD.load1 rfl .h ly_24 rfl) rfl ?_
  refine Sl.G.cmpn (Sl.RO.neq rfl rfl) rfl (fun hc2 => ?_) (fun hc2 => ?_)
  refine Sl.G.ro (Sl.RO.rd (Sl.RO.move rfl)) rfl ?_
  refine Sl.G.pass rfl rfl ?_
  refine Sl.G.pass rfl rfl ?_
  refine Sl.G.pass rfl rfl ?_
  refine Sl.G.pass rfl rfl ?_
  refine Sl.G.pass rfl rfl ?_
  refine Sl.G.pass rfl rfl ?_
  refine Sl.G.pass rfl rfl ?_
  refine Sl.G.ro (Sl.RO.rd (Sl.RO.pickT rfl rfl)) rfl ?_
  refine Sl.G.nil ?_
  refine Sl.Post.thenN ?_
  refine Sl.Tr.condT rfl ?_
  refine Sl.Tr.seq ?_
  refine Sl.Tr.region ?_
  refine Sl.G.ro (Sl.RO.rd (Sl.RO.assign rfl)) rfl ?_
  refine Sl.G.nil ?_
  refine Sl.Post.thenN ?_
  refine Sl.Tr.ret ?_
  refine Sl.Post.thenR ?_
  rotate_left
  refine Sl.G.ro (Sl.RO.rd (Sl.RO.move rfl)) rfl ?_
  refine Sl.G.un rfl ?_
  refine Sl.G.ro (Sl.RO.rd (Sl.RO.fieldAddr rfl fo_27_1)) rfl ?_
  refine Sl.G.un rfl ?_
  refine Sl.G.ro (Sl.RD.load1 rfl (.t .h) ly_25 rfl) rfl ?_
  refine Sl.G.un rfl ?_
  refine Sl.G.ro (Sl.RO.rd (Sl.RO.lenSl rfl sl_25)) rfl ?_
  refine Sl.G.un rfl ?_
  refine Sl.G.ro (Sl.RO.rd (Sl.RO.fieldAddr rfl fo_27_1)) rfl ?_
  refine Sl.G.un rfl ?_
  refine Sl.G.ro (Sl.RD.load1 rfl .h ly_25 rfl) rfl ?_
  refine Sl.G.un rfl ?_
  refine Sl.G.ro (Sl.RO.rd (Sl.RO.lenSl rfl sl_25)) rfl ?_
  refine Sl.G.un rfl ?_
  refine Sl.G.cmpn (Sl.RO.neq rfl rfl) rfl (fun hc3 => ?_) (fun hc3 => ?_)
  refine Sl.G.ro (Sl.RO.rd (Sl.RO.pickF rfl rfl)) rfl ?_
  refine Sl.G.nil ?_
  refine Sl.Post.thenN ?_
  refine Sl.Tr.condT rfl ?_
  refine Sl.Tr.seq ?_
  refine Sl.Tr.region ?_
  refine Sl.G.ro (Sl.RO.rd (Sl.RO.assign rfl)) rfl ?_
  refine Sl.G.nil ?_
  refine Sl.Post.thenN ?_
  refine Sl.Tr.ret ?_
  refine Sl.Post.thenR ?_
  rotate_left
  refine Sl.G.ro (Sl.RO.rd (Sl.RO.pickF rfl rfl)) rfl ?_
  refine Sl.G.nil ?_
  refine Sl.Post.thenN ?_
  refine Sl.Tr.condF rfl ?_
  refine Sl.Tr.skip ?_
  refine Sl.Post.thenN ?_
  refine Sl.Tr.seq ?_
  refine Sl.Tr.seq ?_
  refine Sl.Tr.region ?_
  refine Sl.G.ro (Sl.RO.rd (Sl.RO.assign rfl)) rfl ?_
  refine Sl.G.nil ?_
  refine Sl.Post.thenN ?_
  refine Sl.Tr.block ?_
  rotate_left
  · refine Sl.Post.fin rfl (.tmp rfl .nil) rfl .n ?_ (.inl rfl)
    exact ⟨by congr 1; rw [eq_comm, decide_eq_false_iff_not]; intro h; exact ‹¬ r.err = s.err› (congrArg (·.1) h), rfl⟩
  · refine Sl.Post.fin rfl (.tmp rfl .nil) rfl .n ?_ (.inl rfl)
    exact ⟨by congr 1; rw [eq_comm, decide_eq_false_iff_not]; intro h; exact ‹¬ (r.ev.length : Int) = s.ev.length› (congrArg (fun x => (x.2.length : Int)) h), rfl⟩
  · refine Sl.Tr.loop (α := Nat) (fun i => [(5, .int .i64 (i : Nat))]) [(19, _), (18, _), (17, _), (16, _), (15, _), (14, _), (13, _), (12, _), (11, _), (10, _), (9, _), (8, _), (7, _), (6, _), (3, _), (2, _), (0, _), (1, _)] (fun _ => []) [_, _] (fun i => i ≤ r.ev.length ∧ r.ev.take i = s.ev.take i) (fun i => r.ev.length - i) (0) ?_ ⟨rfl, trivial⟩ ⟨rfl, rfl, rfl, rfl, rfl, rfl, rfl, rfl, rfl, rfl, rfl, rfl, rfl, rfl, rfl, rfl, rfl, rfl, trivial⟩ (.p .h (.p .h .o)) ?_
    · exact ⟨Nat.zero_le _, rfl⟩
    rintro i ⟨hi, he⟩
    dsimp only [List.cons_append, List.nil_append]
    (try dsimp only at *)
    refine Sl.Tr.seq ?_
    refine Sl.Tr.seq ?_
    refine Sl.Tr.region ?_
    refine Sl.G.ro (Sl.RO.rd (Sl.RO.move rfl)) rfl ?_
    refine Sl.G.ro (Sl.RO.rd (Sl.RO.fieldAddr rfl fo_27_1)) rfl ?_
    refine Sl.G.ro (Sl.RD.load1 rfl (.t .h) ly_25 rfl) rfl ?_
    refine Sl.G.ro (Sl.RO.rd (Sl.RO.lenSl rfl sl_25)) rfl ?_
    refine Sl.G.cmp (Sl.RO.lss rfl rfl) rfl (fun hc4 => ?_) (fun hc4 => ?_)
    refine Sl.G.nil ?_
    refine Sl.Post.thenN ?_
    refine Sl.Tr.condT rfl ?_
    refine Sl.Tr.skip ?_
    refine Sl.Post.thenN ?_
    refine Sl.Tr.seq ?_
    refine Sl.Tr.block ?_
    refine Sl.Tr.seq ?_
    rotate_left
    refine Sl.G.nil ?_
    refine Sl.Post.thenN ?_
    refine Sl.Tr.condF rfl ?_
    refine Sl.Tr.exit ?_
    refine Sl.Post.thenE ?_
    refine Sl.Post.thenE ?_
    refine Sl.Post.blockE ?_
    refine Sl.Post.thenN ?_
    refine Sl.Tr.seq ?_
    refine Sl.Tr.region ?_
    refine Sl.G.ro (Sl.RO.rd (Sl.RO.assign rfl)) rfl ?_
    refine Sl.G.nil ?_
    refine Sl.Post.thenN ?_
    refine Sl.Tr.ret ?_
    rotate_left
    · obtain ⟨x, hx⟩ := get_lt (l := r.ev) (i := i) (by omega)
      obtain ⟨y, hy⟩ := get_lt (l := s.ev) (i := i) (by omega)
      refine Sl.Tr.freeze .h (fun G5 hle5 hfz5 back5 thaw5 => ?_)
      have hr1_5 := Sl.Frm.has_mono hr1 hle5
      have hs1_5 := Sl.Frm.has_mono hs1 hle5
      refine Sl.Tr.freeze .h (fun G6 hle6 hfz6 back6 thaw6 => ?_)
      have hfz5_6 := Sl.Frm.has_mono hfz5 hle6
      have hr1_5_6 := Sl.Frm.has_mono hr1_5 hle6
      have hs1_5_6 := Sl.Frm.has_mono hs1_5 hle6
      refine Sl.Tr.draw (fuel := 11) (listed := [false, false, false, false, false, false, false, false, false, false, false]) mixed rfl rfl ?_
      refine Sl.GD.take (i := 0) rfl rfl rfl (Sl.RO.fieldAddr rfl fo_27_1) rfl ?_
      refine Sl.GD.take (i := 1) rfl rfl rfl (Sl.RO.load1 rfl hfz6 ly_25 rfl) rfl ?_
      refine Sl.GD.take (i := 2) rfl rfl rfl (Sl.RO.move rfl) rfl ?_
      refine Sl.GD.take (i := 3) rfl rfl rfl (Sl.RO.atEl rfl rfl sl_25 hr1_5_6 (by assumption)) rfl ?_
      refine Sl.GD.take (i := 4) rfl rfl rfl (Sl.RO.loadEp rfl hr1_5_6 (by assumption) ly_41 rfl) rfl ?_
      refine Sl.GD.take (i := 5) rfl rfl rfl (Sl.RO.fieldAddr rfl fo_27_1) rfl ?_
      refine Sl.GD.take (i := 6) rfl rfl rfl (Sl.RO.load1 rfl hfz5_6 ly_25 rfl) rfl ?_
      refine Sl.GD.take (i := 7) rfl rfl rfl (Sl.RO.move rfl) rfl ?_
      refine Sl.GD.take (i := 8) rfl rfl rfl (Sl.RO.atEl rfl rfl sl_25 hs1_5_6 (by assumption)) rfl ?_
      refine Sl.GD.take (i := 9) rfl rfl rfl (Sl.RO.loadEp rfl hs1_5_6 (by assumption) ly_41 rfl) rfl ?_
      refine Sl.GD.take (i := 10) rfl rfl rfl (Sl.RO.neqS rfl rfl (by kernel_rfl) ly_41 (by kernel_rfl) rfl rfl rfl) rfl ?_
      refine Sl.GD.done rfl (back6 _ _ _ _ _ _ (back5 _ _ _ _ _ _ ?_))
      refine Post.as 37 (.bool (!decide (x = y))) rfl (by rw [← eqI_event]) ?_
      refine Sl.Post.thenN ?_
      refine Sl.Tr.cond rfl (fun hb7 => ?_) (fun hb7 => ?_)
      refine Sl.Tr.seq ?_
      refine Sl.Tr.region ?_
      refine Sl.G.ro (Sl.RO.rd (Sl.RO.assign rfl)) rfl ?_
      refine Sl.G.nil ?_
      refine Sl.Post.thenN ?_
      refine Sl.Tr.ret ?_
      refine Sl.Post.blockR ?_
      refine Sl.Post.thenR ?_
      refine Sl.Post.thenR ?_
      refine Sl.Post.blockR ?_
      refine Sl.Post.thenR ?_
      rotate_left
      refine Sl.Tr.skip ?_
      refine Sl.Post.blockN ?_
      refine Sl.Post.thenN ?_
      refine Sl.Tr.region ?_
      refine Sl.G.ro (Sl.RO.rd (Sl.RO.move rfl)) rfl ?_
      refine Sl.G.ro (Sl.RO.rd (Sl.RO.addI rfl rfl (by omega))) rfl ?_
      refine Sl.G.ro (Sl.RO.rd (Sl.RO.assign rfl)) rfl ?_
      refine Sl.G.nil ?_
      rotate_left
      · refine Sl.Post.fin rfl (.tmp rfl .nil) rfl .n ?_ (.inl rfl)
        refine ⟨?_, rfl⟩
        congr 1; rw [eq_comm, decide_eq_false_iff_not]
        intro h
        have h2 : r.ev = s.ev := congrArg (·.2) h
        rw [h2, hy] at hx
        cases hx
        have := ‹(!decide (x = x)) = true›
        simp at this
      · refine Sl.Post.again (i + 1) ?_ ?_ ?_ ?_ ?_
        rotate_left
        · omega
        · exact ⟨rfl, trivial⟩
        · exact ⟨rfl, rfl, rfl, rfl, rfl, rfl, rfl, rfl, rfl, rfl, rfl, rfl, rfl, rfl, rfl, rfl, rfl, rfl, trivial⟩
        · exact (.p .h (.p .h .o))
        have : x = y := by simpa using ‹(!decide (x = y)) = false›
        subst this
        exact ⟨by omega, by rw [take_succ' hx, take_succ' hy, he]⟩
    · obtain rfl : i = r.ev.length := by omega
      refine Sl.Post.fin rfl (.tmp rfl .nil) rfl .n ?_ (.inl rfl)
      refine ⟨?_, rfl⟩
      congr 1; rw [eq_comm, decide_eq_true_eq]
      have : r.ev.length = s.ev.length := by omega
      rw [List.take_length, this, List.take_length] at he
      have h1 := ‹r.err = s.err›
      simp [RepV.pure, h1, he]
theorem Same_Replies (F : Frm) (p q : Option Addr) (c e : Nat) (l m : List RepV) (hl : RepsF F (27, 41) p c l) (hm : RepsF F (27, 41) q e m) (hn : l.length ≤ 1000000) :
    FnOk Tryz.prog 10 [.slice p l.length c, .slice q m.length e] [] F (fun v H => v = .bool (decide (l.map RepV.pure = m.map RepV.pure)) ∧ H = []) := by
  have hl1 := hl.row
  have hm1 := hm.row
  refine Sl.FnOk.of (κ := [(0, _), (1, _)]) Go.Proofs.Tryz.func10 rfl rfl Go.Proofs.Tryz.ntmps10 rfl rfl ?_
  refine Sl.Tr.seq ?_
  refine Sl.Tr.region ?_
  refine Sl.G.ro (Sl.RO.rd (Sl.RO.assign rfl)) rfl ?_
  refine Sl.G.nil ?_
  refine Sl.Post.thenN ?_
  refine Sl.Tr.seq ?_
  refine Sl.Tr.seq ?_
  refine Sl.Tr.region ?_
  refine Sl.G.ro (Sl.RO.rd (Sl.RO.move rfl)) rfl ?_
  refine Sl.G.ro (Sl.RO.rd (Sl.RO.lenSl rfl sl_22)) rfl ?_
  refine Sl.G.ro (Sl.RO.rd (Sl.RO.move rfl)) rfl ?_
  refine Sl.G.ro (Sl.RO.rd (Sl.RO.lenSl rfl sl_22)) rfl ?_
  refine Sl.G.cmpn (Sl.RO.neq rfl rfl) rfl (fun hc0 => ?_) (fun hc0 => ?_)
  refine Sl.G.nil ?_
  refine Sl.Post.thenN ?_
  refine Sl.Tr.condT rfl ?_
  refine Sl.Tr.seq ?_
  refine Sl.Tr.region ?_
  refine Sl.G.ro (Sl.RO.rd (Sl.RO.assign rfl)) rfl ?_
  refine Sl.G.nil ?_
  refine Sl.Post.thenN ?_
  refine Sl.Tr.ret ?_
  refine Sl.Post.thenR ?_
  rotate_left
  refine Sl.G.nil ?_
  refine Sl.Post.thenN ?_
  refine Sl.Tr.condF rfl ?_
  refine Sl.Tr.skip ?_
  refine Sl.Post.thenN ?_
  refine Sl.Tr.seq ?_
  refine Sl.Tr.seq ?_
  refine Sl.Tr.region ?_
  refine Sl.G.ro (Sl.RO.rd (Sl.RO.assign rfl)) rfl ?_
  refine Sl.G.nil ?_
  refine Sl.Post.thenN ?_
  refine Sl.Tr.block ?_
  rotate_left
  · refine Sl.Post.fin rfl (.tmp rfl .nil) rfl .n ?_ (.inl rfl)
    exact ⟨by congr 1; rw [eq_comm, decide_eq_false_iff_not]; intro h; have := congrArg List.length h; simp at this; omega, rfl⟩
  · refine Sl.Tr.loop (α := Nat) (fun i => [(5, .int .i64 (i : Nat))]) [(10, _), (9, _), (8, _), (7, _), (6, _), (0, _), (1, _)] (fun _ => []) [] (fun i => i ≤ l.length ∧ (l.take i).map RepV.pure = (m.take i).map RepV.pure) (fun i => l.length - i) (0) ?_ ⟨rfl, trivial⟩ ⟨rfl, rfl, rfl, rfl, rfl, rfl, rfl, trivial⟩ .o ?_
    · exact ⟨Nat.zero_le _, rfl⟩
    rintro i ⟨hi, he⟩
    dsimp only [List.cons_append, List.nil_append]
    (try dsimp only at *)
    refine Sl.Tr.seq ?_
    refine Sl.Tr.seq ?_
    refine Sl.Tr.region ?_
    refine Sl.G.ro (Sl.RO.rd (Sl.RO.move rfl)) rfl ?_
    refine Sl.G.ro (Sl.RO.rd (Sl.RO.move rfl)) rfl ?_
    refine Sl.G.ro (Sl.RO.rd (Sl.RO.lenSl rfl sl_22)) rfl ?_
    refine Sl.G.cmp (Sl.RO.lss rfl rfl) rfl (fun hc1 => ?_) (fun hc1 => ?_)
    refine Sl.G.nil ?_
    refine Sl.Post.thenN ?_
    refine Sl.Tr.condT rfl ?_
    refine Sl.Tr.skip ?_
    refine Sl.Post.thenN ?_
    refine Sl.Tr.seq ?_
    refine Sl.Tr.block ?_
    refine Sl.Tr.seq ?_
    rotate_left
    refine Sl.G.nil ?_
    refine Sl.Post.thenN ?_
    refine Sl.Tr.condF rfl ?_
    refine Sl.Tr.exit ?_
    refine Sl.Post.thenE ?_
    refine Sl.Post.thenE ?_
    refine Sl.Post.blockE ?_
    refine Sl.Post.thenN ?_
    refine Sl.Tr.seq ?_
    refine Sl.Tr.region ?_
    refine Sl.G.ro (Sl.RO.rd (Sl.RO.assign rfl)) rfl ?_
    refine Sl.G.nil ?_
    refine Sl.Post.thenN ?_
    refine Sl.Tr.ret ?_
    rotate_left
    · obtain ⟨x, hx⟩ := get_lt (l := l) (i := i) (by omega)
      obtain ⟨y, hy⟩ := get_lt (l := m) (i := i) (by omega)
      obtain ⟨hx1, hx2⟩ := hl.evs x (List.mem_of_getElem? hx)
      obtain ⟨hy1, _⟩ := hm.evs y (List.mem_of_getElem? hy)
      refine Sl.Tr.draw (fuel := 10) (listed := [false, false, false, false, false, false, false, false, false, false]) mixed rfl rfl ?_
      refine Sl.GD.take (i := 0) rfl rfl rfl (Sl.RO.move rfl) rfl ?_
      refine Sl.GD.take (i := 1) rfl rfl rfl (Sl.RO.move rfl) rfl ?_
      refine Sl.GD.take (i := 2) rfl rfl rfl (Sl.RO.atEl rfl rfl sl_22 hl1 (by assumption)) rfl ?_
      refine Sl.GD.take (i := 3) rfl rfl rfl (Sl.RO.loadEp rfl hl1 (by assumption) ly_27 rfl) rfl ?_
      refine Sl.GD.take (i := 4) rfl rfl rfl (Sl.RO.move rfl) rfl ?_
      refine Sl.GD.take (i := 5) rfl rfl rfl (Sl.RO.move rfl) rfl ?_
      refine Sl.GD.take (i := 6) rfl rfl rfl (Sl.RO.atEl rfl rfl sl_22 hm1 (by assumption)) rfl ?_
      refine Sl.GD.take (i := 7) rfl rfl rfl (Sl.RO.loadEp rfl hm1 (by assumption) ly_27 rfl) rfl ?_
      refine Sl.GD.call (i := 8) rfl rfl rfl rfl rfl .n (.c (.c .n)) .n (fun G' hle hhas => SameReply _ x y (Frm.has_mono hx1 hle) (Frm.has_mono hy1 hle) (by omega)) rfl (fun v K hR => ?_)
      obtain ⟨rfl, rfl⟩ := hR
      refine Sl.GD.app .n ?_
      refine Sl.GD.take (i := 9) rfl rfl rfl (Sl.RO.not rfl) rfl ?_
      refine Sl.GD.done rfl ?_
      refine Sl.Post.thenN ?_
      refine Sl.Tr.cond rfl (fun hb2 => ?_) (fun hb2 => ?_)
      refine Sl.Tr.seq ?_
      refine Sl.Tr.region ?_
      refine Sl.G.ro (Sl.RO.rd (Sl.RO.assign rfl)) rfl ?_
      refine Sl.G.nil ?_
      refine Sl.Post.thenN ?_
      refine Sl.Tr.ret ?_
      refine Sl.Post.blockR ?_
      refine Sl.Post.thenR ?_
      refine Sl.Post.thenR ?_
      refine Sl.Post.blockR ?_
      refine Sl.Post.thenR ?_
      rotate_left
      refine Sl.Tr.skip ?_
      refine Sl.Post.blockN ?_
      refine Sl.Post.thenN ?_
      refine Sl.Tr.region ?_
      refine Sl.G.ro (Sl.RO.rd (Sl.RO.move rfl)) rfl ?_
      refine Sl.G.ro (Sl.RO.rd (Sl.RO.addI rfl rfl (by omega))) rfl ?_
      refine Sl.G.ro (Sl.RO.rd (Sl.RO.assign rfl)) rfl ?_
      refine Sl.G.nil ?_
      rotate_left
      · refine Sl.Post.fin rfl (.tmp rfl .nil) rfl .n ?_ (.inl rfl)
        refine ⟨?_, rfl⟩
        congr 1; rw [eq_comm, decide_eq_false_iff_not]
        intro h
        have h2 := congrArg (fun l => l[i]?) h
        simp only [List.getElem?_map, hx, hy, Option.map_some, Option.some.injEq] at h2
        have := ‹(!decide (x.pure = y.pure)) = true›
        simp [h2] at this
      · refine Sl.Post.again (i + 1) ?_ ?_ ?_ ?_ ?_
        rotate_left
        · omega
        · exact ⟨rfl, trivial⟩
        · exact ⟨rfl, rfl, rfl, rfl, rfl, rfl, rfl, trivial⟩
        · exact .o
        have : x.pure = y.pure := by simpa using ‹(!decide (x.pure = y.pure)) = false›
        exact ⟨by omega, by rw [take_succ' hx, take_succ' hy, List.map_append, List.map_append, he]; simp [this]⟩
    · obtain rfl : i = l.length := by omega
      refine Sl.Post.fin rfl (.tmp rfl .nil) rfl .n ?_ (.inl rfl)
      refine ⟨?_, rfl⟩
      congr 1; rw [eq_comm, decide_eq_true_eq]
      have : l.length = m.length := by omega
      rw [List.take_length, this, List.take_length] at he
      exact he

end Go.Proofs.YtcaojfapibkplaaGreatDoor
