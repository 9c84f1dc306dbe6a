/- What the functions that read a configuration and entries compute. -/
import Derived.Test.YtcaojfapibkplaaGreatDoorW2
namespace Go.Proofs.YtcaojfapibkplaaGreatDoor
open Go Go.Sl Go.En

/-- A field: a cell of block b, so many bytes. -/
abbrev fldC (b : Nat) (f : Nat × Nat) : List Value := [.pointer (some ⟨b, f.1, none⟩), .int .i64 f.2]
theorem fldC.el (b : Nat) : El (fldC b) 2 := ⟨fun _ => rfl, fun _ => rfl, by decide⟩
/-- What get does: how far, whether short, the cells. -/
def getF (s : List UInt8) : List (Nat × Nat) → Nat → List Value → Nat × Bool × List Value
  | [], a, cs => (a, false, cs)
  | (off, n) :: fs, a, cs => if n > s.length - a then (a, true, cs) else getF s fs (a + n) (cs.set off (.int .i64 (num ((s.drop a).take n) : Nat)))
def getS (s : List UInt8) (fs : List (Nat × Nat)) (a : Nat) (sh : Bool) (cs : List Value) : Nat × Bool × List Value :=
  match sh, fs with
  | true, _ => (a, true, cs)
  | false, fs => getF s fs a cs
theorem getF_len (s : List UInt8) : ∀ (fs : List (Nat × Nat)) (a : Nat) (cs : List Value), a ≤ s.length → (getF s fs a cs).1 ≤ s.length
  | [], _, _, h => h
  | (off, n) :: fs, a, cs, h => by
    simp only [getF]
    split
    · exact h
    · exact getF_len s fs _ _ (by omega)
theorem getF_snoc (s : List UInt8) (off n : Nat) : ∀ (fs : List (Nat × Nat)) (a : Nat) (cs : List Value), (getF s fs a cs).2.1 = false →
    getF s (fs ++ [(off, n)]) a cs = getF s [(off, n)] (getF s fs a cs).1 (getF s fs a cs).2.2
  | [], _, _, _ => rfl
  | (o, m) :: fs, a, cs, h => by
    simp only [getF] at h ⊢
    split at h
    · cases h
    · rename_i hc
      simp only [List.cons_append, getF, if_neg hc]
      exact getF_snoc s off n fs _ _ h
theorem getF_app (s : List UInt8) : ∀ (fs gs : List (Nat × Nat)) (a : Nat) (cs : List Value), (getF s fs a cs).2.1 = true → getF s (fs ++ gs) a cs = getF s fs a cs
  | [], _, _, _, h => by cases h
  | (o, m) :: fs, gs, a, cs, h => by
    simp only [getF, List.cons_append] at h ⊢
    split at h
    · rename_i hc; rw [if_pos hc, if_pos hc]
    · rename_i hc; rw [if_neg hc, if_neg hc]; exact getF_app s fs gs _ _ h
theorem getF_cell (s : List UInt8) (off : Nat) : ∀ (fs : List (Nat × Nat)) (a : Nat) (cs : List Value), (∀ f ∈ fs, f.1 ≠ off) → (getF s fs a cs).2.2[off]? = cs[off]?
  | [], _, _, _ => rfl
  | (o, m) :: fs, a, cs, h => by
    simp only [getF]
    split
    · rfl
    · rw [getF_cell s off fs _ _ (fun f hf => h f (by simp [hf])), List.getElem?_set_ne (h (o, m) (by simp))]
theorem subl1 {l : List Value} {k : Nat} {v : Value} (h : l[k]? = some v) : subl l k 1 = some [v] := by
  have hk : k < l.length := by
    rcases Nat.lt_or_ge k l.length with h' | h'
    · exact h'
    · rw [List.getElem?_eq_none h'] at h; cases h
  exact subl_mk rfl (by omega) (fun t ht => by
    have : t = 0 := by omega
    subst this; simpa using h)
theorem updl1 {l : List Value} {k : Nat} {u v : Value} (h : l[k]? = some u) : updl l k [v] = some (l.set k v) := by
  induction l generalizing k with
  | nil => simp at h
  | cons x l ih => cases k with
    | zero => cases l <;> rfl
    | succ k =>
      have h2 : updl l k [v] = some (l.set k v) := ih (by rw [List.getElem?_cons_succ] at h; exact h)
      rw [List.set_cons_succ]
      show (match updl l k [v] with | some r => some (x :: r) | none => none) = _
      rw [h2]

theorem updl1s {l : List Value} {k : Nat} {x u v : Value} (h : (l.set k x)[k]? = some u) : updl (l.set k x) k [v] = some (l.set k v) := by
  rw [updl1 h, List.set_set]

theorem reader_get (F : Frm) (r b T Tf : Nat) (s : List UInt8) (a : Nat) (sh : Bool) (cs : List Value) (p : Option Addr) (c : Nat) (fs : List (Nat × Nat))
    (hv : F.has (sA Tf 2 (fldC b) p c fs)) (hs : s.length ≤ 1000000) (ha : a ≤ s.length) (hz : ∀ f ∈ fs, cs[f.1]? = some (.int .i64 0)) (hd : (fs.map (·.1)).Nodup) (hn : ∀ f ∈ fs, f.2 ≤ 3) (hfl : fs ≠ []) (hfl2 : fs.length ≤ 100) :
    FnOk Tryz.prog 31 [.pointer (some ⟨r, 0, none⟩), .slice p fs.length c] [pt r (cl [str s, .int .i64 a, .bool sh] 88), pt b (cl cs T)] F
      (fun v H => v = .tuple #[] ∧ H = [pt r (cl [str s, .int .i64 (getS s fs a sh cs).1, .bool (getS s fs a sh cs).2.1] 88), pt b (cl (getS s fs a sh cs).2.2 T)]) := by
  obtain ⟨f0, hf0⟩ : ∃ f, fs[0]? = some f := by
    cases fs with
    | nil => exact absurd rfl hfl
    | cons f r => exact ⟨f, rfl⟩
  have hpos : 0 < fs.length := by
    cases fs with
    | nil => exact absurd rfl hfl
    | cons f r => simp
  cases sh
  · refine Sl.FnOk.of (κ := [(0, _), (1, _)]) Go.Proofs.Tryz.func31 rfl rfl Go.Proofs.Tryz.ntmps31 rfl rfl ?_
    refine Sl.Tr.seq ?_
    refine Sl.Tr.region ?_
    refine Sl.G.ro (Sl.RO.rd (Sl.RO.move rfl)) rfl ?_
    refine Sl.G.ro (Sl.RO.rd (Sl.RO.lenSl rfl sl_99)) rfl ?_
    refine Sl.G.ro (Sl.RO.rd (Sl.RO.move rfl)) rfl ?_
    refine Sl.G.nil ?_
    refine Sl.Post.thenN ?_
    refine Sl.Tr.block ?_
    refine Sl.Tr.loop (α := Nat × Nat × List Value) (fun g => [(8, .int .i64 (g.1 : Nat))]) [(7, _), (6, _), (0, _), (1, _)] (fun g => [pt r (cl [str s, .int .i64 (g.2.1 : Nat), .bool false] 88), pt b (cl g.2.2 T)]) [] (fun g => g.1 ≤ fs.length ∧ getF s (fs.take g.1) a cs = (g.2.1, false, g.2.2)) (fun g => fs.length - g.1) ((0, a, cs)) ?_ ⟨rfl, trivial⟩ ⟨rfl, rfl, rfl, rfl, trivial⟩ (.p .h (.p .h .o)) ?_
    · exact ⟨Nat.zero_le _, rfl⟩
    rintro ⟨i, a1, cs1⟩ ⟨hi, hg⟩
    dsimp only [List.cons_append, List.nil_append]
    (try dsimp only at *)
    rcases Nat.lt_or_ge i fs.length with hil | hil
    · obtain ⟨f, hf⟩ := get_lt (l := fs) (i := i) (by omega)
      have hg1 : a1 ≤ s.length := by have := getF_len s (fs.take i) a cs ha; rw [hg] at this; exact this
      have hnf := hn f (List.mem_of_getElem? hf)
      have htk : fs.take (i + 1) = fs.take i ++ [f] := take_succ' hf
      have hfs : fs = fs.take (i + 1) ++ fs.drop (i + 1) := (List.take_append_drop _ _).symm
      rcases Nat.lt_or_ge (s.length - a1) f.2 with hsh | hsh
      · have hfin : getF s fs a cs = (a1, true, cs1) := by
          have h1 : getF s (fs.take (i + 1)) a cs = (a1, true, cs1) := by
            rw [htk]
            rw [getF_snoc s f.1 f.2 _ _ _ (by rw [hg]), hg]
            simp only [getF]
            rw [if_pos (by omega)]
          rw [hfs, getF_app _ _ _ _ _ (by rw [h1]), h1]
        refine Sl.Tr.seq ?_
        refine Sl.Tr.region ?_
        refine Sl.G.ro (Sl.RO.rd (Sl.RO.bT (Sl.RO.lss rfl rfl) (by omega))) rfl ?_
        refine Sl.G.nil ?_
        refine Sl.Post.thenN ?_
        refine Sl.Tr.seq ?_
        refine Sl.Tr.condT rfl ?_
        refine Sl.Tr.skip ?_
        refine Sl.Post.thenN ?_
        refine Sl.Tr.seq ?_
        refine Sl.Tr.block ?_
        refine Sl.Tr.seq ?_
        refine Sl.Tr.region ?_
        refine Sl.G.ro (Sl.RO.rd (Sl.RO.atEl rfl rfl sl_99 hv (by assumption))) rfl ?_
        refine Sl.G.ro (Sl.RO.rd (Sl.RO.loadEp rfl hv (by assumption) ly_112 rfl)) rfl ?_
        refine Sl.G.alloc zv_112 rfl (fun b0 => ?_)
        refine Sl.G.store rfl rfl rfl rfl ly_112 rfl .h rfl ?_
        refine Sl.G.nil ?_
        refine Sl.Post.thenN ?_
        refine Sl.Tr.seq ?_
        refine Sl.Tr.seq ?_
        refine Sl.Tr.freeze .h (fun G1 hle1 hfz1 back1 thaw1 => ?_)
        have hv_1 := Sl.Frm.has_mono hv hle1
        refine Sl.Tr.freeze .h (fun G2 hle2 hfz2 back2 thaw2 => ?_)
        have hfz1_2 := Sl.Frm.has_mono hfz1 hle2
        have hv_1_2 := Sl.Frm.has_mono hv_1 hle2
        refine Sl.Tr.draw (fuel := 23) (listed := [false, false, false, false, false, false, false, false, false, false, false, false, false, false, false, false, false, false, false, false, false, false, false]) mixed rfl rfl ?_
        refine Sl.GD.take (i := 0) rfl rfl rfl (Sl.RO.move rfl) rfl ?_
        refine Sl.GD.take (i := 1) rfl rfl rfl (Sl.RO.move rfl) rfl ?_
        refine Sl.GD.take (i := 2) rfl rfl rfl (Sl.RO.nilCheck rfl) rfl ?_
        refine Sl.GD.take (i := 3) rfl rfl rfl (Sl.RO.fieldAddr rfl fo_88_2) rfl ?_
        refine Sl.GD.take (i := 4) rfl rfl rfl (Sl.RO.load1 rfl hfz2 ly_4 rfl) rfl ?_
        refine Sl.GD.take (i := 5) rfl rfl rfl (Sl.RO.move rfl) rfl ?_
        refine Sl.GD.takeG (i := 6) rfl rfl rfl rfl (Sl.RO.fieldAddr rfl fo_112_1) rfl ?_
        refine Sl.GD.takeG (i := 7) rfl rfl rfl rfl (Sl.RO.load1 rfl hfz1_2 ly_3 rfl) rfl ?_
        refine Sl.GD.takeG (i := 8) rfl rfl rfl rfl (Sl.RO.move rfl) rfl ?_
        refine Sl.GD.takeG (i := 9) rfl rfl rfl rfl (Sl.RO.nilCheck rfl) rfl ?_
        refine Sl.GD.takeG (i := 10) rfl rfl rfl rfl (Sl.RO.fieldAddr rfl fo_88_0) rfl ?_
        refine Sl.GD.takeG (i := 11) rfl rfl rfl rfl (Sl.RO.load1 rfl hfz2 ly_9 rfl) rfl ?_
        refine Sl.GD.takeG (i := 12) rfl rfl rfl rfl (Sl.RO.lenStr rfl st_9) rfl ?_
        refine Sl.GD.takeG (i := 13) rfl rfl rfl rfl (Sl.RO.move rfl) rfl ?_
        refine Sl.GD.takeG (i := 14) rfl rfl rfl rfl (Sl.RO.nilCheck rfl) rfl ?_
        refine Sl.GD.takeG (i := 15) rfl rfl rfl rfl (Sl.RO.fieldAddr rfl fo_88_1) rfl ?_
        refine Sl.GD.takeG (i := 16) rfl rfl rfl rfl (Sl.RO.load1 rfl hfz2 ly_3 rfl) rfl ?_
        refine Sl.GD.takeG (i := 17) rfl rfl rfl rfl (Sl.RO.subI rfl rfl (by omega)) rfl ?_
        refine Sl.GD.takeG (i := 18) rfl rfl rfl rfl (Sl.RO.bT (Sl.RO.gtr rfl rfl) (by omega)) rfl ?_
        refine Sl.GD.take (i := 19) rfl rfl rfl (Sl.RO.pickF rfl rfl) rfl ?_
        refine Sl.GD.take (i := 20) rfl rfl rfl (Sl.RO.nilCheck rfl) rfl ?_
        refine Sl.GD.take (i := 21) rfl rfl rfl (Sl.RO.fieldAddr rfl fo_88_2) rfl ?_
        refine Sl.GD.thaw (i := 22) thaw2 rfl ?_
        refine Sl.GD.thaw (i := 22) thaw1 rfl ?_
        refine Sl.GD.store (i := 22) rfl rfl rfl rfl rfl rfl rfl ly_4 rfl (.t .h) rfl ?_
        refine Sl.GD.done rfl ?_
        refine Sl.Post.thenN ?_
        refine Sl.Tr.seq ?_
        refine Sl.Tr.region ?_
        refine Sl.G.ro (Sl.RO.rd (Sl.RO.move rfl)) rfl ?_
        refine Sl.G.ro (Sl.RO.rd (Sl.RO.nilCheck rfl)) rfl ?_
        refine Sl.G.ro (Sl.RO.rd (Sl.RO.fieldAddr rfl fo_88_2)) rfl ?_
        refine Sl.G.ro (Sl.RD.load1 rfl (.t .h) ly_4 rfl) rfl ?_
        refine Sl.G.nil ?_
        refine Sl.Post.thenN ?_
        refine Sl.Tr.condT rfl ?_
        refine Sl.Tr.ret ?_
        refine Sl.Post.thenR ?_
        refine Sl.Post.blockR ?_
        refine Sl.Post.thenR ?_
        refine Sl.Post.thenR ?_
        refine Sl.Post.blockR ?_
        refine Sl.Post.fin rfl .nil rfl (.p (.t .h) (.p (.t .h) .n)) ?_ (.inl rfl)
        simp only [getS, hfin]
        exact ⟨trivial, trivial⟩
      · refine Sl.Tr.seq ?_
        refine Sl.Tr.region ?_
        refine Sl.G.ro (Sl.RO.rd (Sl.RO.bT (Sl.RO.lss rfl rfl) (by omega))) rfl ?_
        refine Sl.G.nil ?_
        refine Sl.Post.thenN ?_
        refine Sl.Tr.seq ?_
        refine Sl.Tr.condT rfl ?_
        refine Sl.Tr.skip ?_
        refine Sl.Post.thenN ?_
        refine Sl.Tr.seq ?_
        refine Sl.Tr.block ?_
        refine Sl.Tr.seq ?_
        refine Sl.Tr.region ?_
        refine Sl.G.ro (Sl.RO.rd (Sl.RO.atEl rfl rfl sl_99 hv (by assumption))) rfl ?_
        refine Sl.G.ro (Sl.RO.rd (Sl.RO.loadEp rfl hv (by assumption) ly_112 rfl)) rfl ?_
        refine Sl.G.alloc zv_112 rfl (fun b3 => ?_)
        refine Sl.G.store rfl rfl rfl rfl ly_112 rfl .h rfl ?_
        refine Sl.G.nil ?_
        refine Sl.Post.thenN ?_
        refine Sl.Tr.seq ?_
        refine Sl.Tr.seq ?_
        refine Sl.Tr.freeze .h (fun G4 hle4 hfz4 back4 thaw4 => ?_)
        have hv_4 := Sl.Frm.has_mono hv hle4
        refine Sl.Tr.freeze .h (fun G5 hle5 hfz5 back5 thaw5 => ?_)
        have hfz4_5 := Sl.Frm.has_mono hfz4 hle5
        have hv_4_5 := Sl.Frm.has_mono hv_4 hle5
        refine Sl.Tr.draw (fuel := 23) (listed := [false, false, false, false, false, false, false, false, false, false, false, false, false, false, false, false, false, false, false, false, false, false, false]) mixed rfl rfl ?_
        refine Sl.GD.take (i := 0) rfl rfl rfl (Sl.RO.move rfl) rfl ?_
        refine Sl.GD.take (i := 1) rfl rfl rfl (Sl.RO.move rfl) rfl ?_
        refine Sl.GD.take (i := 2) rfl rfl rfl (Sl.RO.nilCheck rfl) rfl ?_
        refine Sl.GD.take (i := 3) rfl rfl rfl (Sl.RO.fieldAddr rfl fo_88_2) rfl ?_
        refine Sl.GD.take (i := 4) rfl rfl rfl (Sl.RO.load1 rfl hfz5 ly_4 rfl) rfl ?_
        refine Sl.GD.take (i := 5) rfl rfl rfl (Sl.RO.move rfl) rfl ?_
        refine Sl.GD.takeG (i := 6) rfl rfl rfl rfl (Sl.RO.fieldAddr rfl fo_112_1) rfl ?_
        refine Sl.GD.takeG (i := 7) rfl rfl rfl rfl (Sl.RO.load1 rfl hfz4_5 ly_3 rfl) rfl ?_
        refine Sl.GD.takeG (i := 8) rfl rfl rfl rfl (Sl.RO.move rfl) rfl ?_
        refine Sl.GD.takeG (i := 9) rfl rfl rfl rfl (Sl.RO.nilCheck rfl) rfl ?_
        refine Sl.GD.takeG (i := 10) rfl rfl rfl rfl (Sl.RO.fieldAddr rfl fo_88_0) rfl ?_
        refine Sl.GD.takeG (i := 11) rfl rfl rfl rfl (Sl.RO.load1 rfl hfz5 ly_9 rfl) rfl ?_
        refine Sl.GD.takeG (i := 12) rfl rfl rfl rfl (Sl.RO.lenStr rfl st_9) rfl ?_
        refine Sl.GD.takeG (i := 13) rfl rfl rfl rfl (Sl.RO.move rfl) rfl ?_
        refine Sl.GD.takeG (i := 14) rfl rfl rfl rfl (Sl.RO.nilCheck rfl) rfl ?_
        refine Sl.GD.takeG (i := 15) rfl rfl rfl rfl (Sl.RO.fieldAddr rfl fo_88_1) rfl ?_
        refine Sl.GD.takeG (i := 16) rfl rfl rfl rfl (Sl.RO.load1 rfl hfz5 ly_3 rfl) rfl ?_
        refine Sl.GD.takeG (i := 17) rfl rfl rfl rfl (Sl.RO.subI rfl rfl (by omega)) rfl ?_
        refine Sl.GD.takeG (i := 18) rfl rfl rfl rfl (Sl.RO.bF (Sl.RO.gtr rfl rfl) (by omega)) rfl ?_
        refine Sl.GD.take (i := 19) rfl rfl rfl (Sl.RO.pickF rfl rfl) rfl ?_
        refine Sl.GD.take (i := 20) rfl rfl rfl (Sl.RO.nilCheck rfl) rfl ?_
        refine Sl.GD.take (i := 21) rfl rfl rfl (Sl.RO.fieldAddr rfl fo_88_2) rfl ?_
        refine Sl.GD.thaw (i := 22) thaw5 rfl ?_
        refine Sl.GD.thaw (i := 22) thaw4 rfl ?_
        refine Sl.GD.store (i := 22) rfl rfl rfl rfl rfl rfl rfl ly_4 rfl (.t .h) rfl ?_
        refine Sl.GD.done rfl ?_
        refine Sl.Post.thenN ?_
        refine Sl.Tr.seq ?_
        refine Sl.Tr.region ?_
        refine Sl.G.ro (Sl.RO.rd (Sl.RO.move rfl)) rfl ?_
        refine Sl.G.ro (Sl.RO.rd (Sl.RO.nilCheck rfl)) rfl ?_
        refine Sl.G.ro (Sl.RO.rd (Sl.RO.fieldAddr rfl fo_88_2)) rfl ?_
        refine Sl.G.ro (Sl.RD.load1 rfl (.t .h) ly_4 rfl) rfl ?_
        refine Sl.G.nil ?_
        refine Sl.Post.thenN ?_
        refine Sl.Tr.condF rfl ?_
        refine Sl.Tr.skip ?_
        refine Sl.Post.thenN ?_
        refine Sl.Tr.seq ?_
        refine Sl.Tr.region ?_
        refine Sl.G.ro (Sl.RO.rd (Sl.RO.fieldAddr rfl fo_112_1)) rfl ?_
        refine Sl.G.ro (Sl.RD.load1 rfl .h ly_3 rfl) rfl ?_
        refine Sl.G.ro (Sl.RO.rd (Sl.RO.move rfl)) rfl ?_
        refine Sl.G.nil ?_
        refine Sl.Post.thenN ?_
        refine Sl.Tr.block ?_
        have hcell : cs1[f.1]? = some (.int .i64 0) := by
          have := getF_cell s f.1 (fs.take i) a cs (fun g hg1 he => by
            have h1 : ((fs.take (i + 1)).map (·.1)).Nodup := hd.sublist ((List.take_sublist _ _).map _)
            rw [htk, List.map_append] at h1
            exact (List.nodup_append.1 h1).2.2 g.1 (List.mem_map_of_mem hg1) f.1 (by simp) he)
          rw [hg] at this
          rw [this]; exact hz f (List.mem_of_getElem? hf)
        have hfk : f.1 < cs1.length := by
          rcases Nat.lt_or_ge f.1 cs1.length with h | h
          · exact h
          · rw [List.getElem?_eq_none h] at hcell; cases hcell
        refine Sl.Tr.loop (α := Nat × List Value) (fun g => [(40, .int .i64 (g.1 : Nat))]) [(39, _), (38, _), (37, _), (36, _), (35, _), (34, _), (33, _), (32, _), (31, _), (30, _), (29, _), (28, _), (27, _), (26, _), (25, _), (24, _), (23, _), (22, _), (21, _), (20, _), (19, _), (18, _), (17, _), (16, _), (15, _), (14, _), (13, _), (12, _), (5, _), (11, _), (10, _), (9, _), (8, _), (7, _), (6, _), (0, _), (1, _)] (fun g => [pt r (cl [str s, .int .i64 ((a1 + g.1 : Nat) : Int), .bool false] 88), pt b (cl g.2 T)]) [_] (fun g => g.1 ≤ f.2 ∧ g.2 = cs1.set f.1 (.int .i64 (num ((s.drop a1).take g.1) : Nat))) (fun g => f.2 - g.1) ((0, cs1)) ?_ ⟨rfl, trivial⟩ ⟨rfl, rfl, rfl, rfl, rfl, rfl, rfl, rfl, rfl, rfl, rfl, rfl, rfl, rfl, rfl, rfl, rfl, rfl, rfl, rfl, rfl, rfl, rfl, rfl, rfl, rfl, rfl, rfl, rfl, rfl, rfl, rfl, rfl, rfl, rfl, rfl, rfl, trivial⟩ (.p (.t .h) (.p (.t .h) (.p .h .o))) ?_
        · exact ⟨Nat.zero_le _, by
            rw [List.take_zero]
            show cs1 = cs1.set f.1 (.int .i64 0)
            apply List.ext_getElem?
            intro t
            rw [List.getElem?_set]
            split
            · rename_i h; subst h; exact hcell
            · rfl⟩
        rintro ⟨k, cs2⟩ ⟨hk, hcs⟩
        dsimp only [List.cons_append, List.nil_append]
        (try dsimp only at *)
        subst hcs
        have hlt := num_lt4 (l := (s.drop a1).take k) (by simp; omega)
        rcases Nat.lt_or_ge k f.2 with hkf | hkf
        · obtain ⟨x, hx⟩ := get_lt (l := s) (i := a1 + k) (by omega)
          have hb := x.toNat_lt
          have hdk : (s.drop a1)[k]? = some x := by rw [List.getElem?_drop]; exact hx
          have hc2 : (cs1.set f.1 (.int .i64 (num ((s.drop a1).take k) : Nat)))[f.1]? = some (.int .i64 (num ((s.drop a1).take k) : Nat)) := by rw [List.getElem?_set_self hfk]
          refine Sl.Tr.seq ?_
          refine Sl.Tr.region ?_
          refine Sl.G.ro (Sl.RO.rd (Sl.RO.bT (Sl.RO.lss rfl rfl) (by omega))) rfl ?_
          refine Sl.G.nil ?_
          refine Sl.Post.thenN ?_
          refine Sl.Tr.seq ?_
          refine Sl.Tr.condT rfl ?_
          refine Sl.Tr.skip ?_
          refine Sl.Post.thenN ?_
          refine Sl.Tr.seq ?_
          refine Sl.Tr.block ?_
          refine Sl.Tr.seq ?_
          refine Sl.Tr.freeze (.t (.t .h)) (fun G6 hle6 hfz6 back6 thaw6 => ?_)
          have hv_6 := Sl.Frm.has_mono hv hle6
          refine Sl.Tr.freeze (.t .h) (fun G7 hle7 hfz7 back7 thaw7 => ?_)
          have hfz6_7 := Sl.Frm.has_mono hfz6 hle7
          have hv_6_7 := Sl.Frm.has_mono hv_6 hle7
          refine Sl.Tr.freeze .h (fun G8 hle8 hfz8 back8 thaw8 => ?_)
          have hfz7_8 := Sl.Frm.has_mono hfz7 hle8
          have hfz6_7_8 := Sl.Frm.has_mono hfz6_7 hle8
          have hv_6_7_8 := Sl.Frm.has_mono hv_6_7 hle8
          refine Sl.Tr.draw (fuel := 20) (listed := [false, false, false, false, false, false, false, false, false, false, false, false, false, false, false, false, false, false, false, false]) mixed rfl rfl ?_
          refine Sl.GD.take (i := 0) rfl rfl rfl (Sl.RO.fieldAddr rfl fo_112_0) rfl ?_
          refine Sl.GD.take (i := 1) rfl rfl rfl (Sl.RO.load1 rfl hfz6_7_8 ly_110 rfl) rfl ?_
          refine Sl.GD.take (i := 2) rfl rfl rfl (Sl.RO.fieldAddr rfl fo_112_0) rfl ?_
          refine Sl.GD.take (i := 3) rfl rfl rfl (Sl.RO.load1 rfl hfz6_7_8 ly_110 rfl) rfl ?_
          refine Sl.GD.take (i := 4) rfl rfl rfl (Sl.RO.nilCheck rfl) rfl ?_
          refine Sl.GD.take (i := 7) rfl rfl rfl (Sl.RO.move rfl) rfl ?_
          refine Sl.GD.take (i := 8) rfl rfl rfl (Sl.RO.nilCheck rfl) rfl ?_
          refine Sl.GD.take (i := 9) rfl rfl rfl (Sl.RO.fieldAddr rfl fo_88_0) rfl ?_
          refine Sl.GD.take (i := 10) rfl rfl rfl (Sl.RO.load1 rfl hfz8 ly_9 rfl) rfl ?_
          refine Sl.GD.take (i := 11) rfl rfl rfl (Sl.RO.move rfl) rfl ?_
          refine Sl.GD.take (i := 12) rfl rfl rfl (Sl.RO.nilCheck rfl) rfl ?_
          refine Sl.GD.take (i := 13) rfl rfl rfl (Sl.RO.fieldAddr rfl fo_88_1) rfl ?_
          refine Sl.GD.take (i := 14) rfl rfl rfl (Sl.RO.load1 rfl hfz8 ly_3 rfl) rfl ?_
          refine Sl.GD.take (i := 15) rfl rfl rfl (Sl.RO.indexStrI rfl rfl st_9 hx (by omega)) rfl ?_
          refine Sl.GD.take (i := 16) rfl rfl rfl (Sl.RO.convI64 rfl ik_5 ik_3 (by omega)) rfl ?_
          refine Sl.GD.take (i := 5) rfl rfl rfl (Sl.RO.load1 rfl hfz7_8 ly_3 (subl1 hc2)) rfl ?_
          refine Sl.GD.take (i := 6) rfl rfl rfl (Sl.RO.shl rfl rfl (by omega)) rfl ?_
          refine Sl.GD.take (i := 17) rfl rfl rfl (Sl.RO.bitop (.inr (.inl rfl)) rfl rfl) rfl ?_
          refine Sl.GD.take (i := 18) rfl rfl rfl (Sl.RO.nilCheck rfl) rfl ?_
          refine Sl.GD.as 59 (.int .i64 (num ((s.drop a1).take (k + 1)) : Nat)) rfl ?_ ?_
          · rw [take_succ' hdk, num_snoc]
            have h1 : ((num ((s.drop a1).take k) : Nat) : Int) * 2 ^ min (Int.toNat 8) IntKind.i64.bits = ((num ((s.drop a1).take k) * 256 : Nat) : Int) := by
              have : min (Int.toNat 8) IntKind.i64.bits = 8 := rfl
              rw [this]; omega
            rw [h1, wrap_i64 (by omega), bits_or_byte _ _ (by omega) (by omega)]
          refine Sl.GD.thaw (i := 19) thaw8 rfl ?_
          refine Sl.GD.thaw (i := 19) thaw7 rfl ?_
          refine Sl.GD.thaw (i := 19) thaw6 rfl ?_
          refine Sl.GD.store (i := 19) rfl rfl rfl rfl rfl rfl rfl ly_3 rfl (.t .h) (updl1s hc2) ?_
          refine Sl.GD.done rfl ?_
          refine Sl.Post.thenN ?_
          refine Sl.Tr.region ?_
          refine Sl.G.ro (Sl.RO.rd (Sl.RO.move rfl)) rfl ?_
          refine Sl.G.ro (Sl.RO.rd (Sl.RO.nilCheck rfl)) rfl ?_
          refine Sl.G.ro (Sl.RO.rd (Sl.RO.fieldAddr rfl fo_88_1)) rfl ?_
          refine Sl.G.ro (Sl.RD.load1 rfl (.t (.t .h)) ly_3 rfl) rfl ?_
          refine Sl.G.ro (Sl.RO.rd (Sl.RO.addI rfl rfl (by omega))) rfl ?_
          refine Sl.G.ro (Sl.RO.rd (Sl.RO.nilCheck rfl)) rfl ?_
          refine Sl.G.ro (Sl.RO.rd (Sl.RO.fieldAddr rfl fo_88_1)) rfl ?_
          refine Sl.G.store rfl rfl rfl rfl ly_3 rfl (.t (.t .h)) rfl ?_
          refine Sl.G.nil ?_
          refine Sl.Post.blockN ?_
          refine Sl.Post.thenN ?_
          refine Sl.Tr.region ?_
          refine Sl.G.ro (Sl.RO.rd (Sl.RO.addI rfl rfl (by omega))) rfl ?_
          refine Sl.G.ro (Sl.RO.rd (Sl.RO.move rfl)) rfl ?_
          refine Sl.G.nil ?_
          refine Sl.Post.again ((k + 1, cs1.set f.1 (.int .i64 (num ((s.drop a1).take (k + 1)) : Nat)))) ?_ ?_ ?_ ?_ ?_
          rotate_left
          · omega
          · exact ⟨rfl, trivial⟩
          · exact ⟨rfl, rfl, rfl, rfl, rfl, rfl, rfl, rfl, rfl, rfl, rfl, rfl, rfl, rfl, rfl, rfl, rfl, rfl, rfl, rfl, rfl, rfl, rfl, rfl, rfl, rfl, rfl, rfl, rfl, rfl, rfl, rfl, rfl, rfl, rfl, rfl, rfl, trivial⟩
          · exact (.p (.t (.t .h)) (.p (.t .h) (.p .h .o)))
          exact ⟨by omega, rfl⟩
        · obtain rfl : k = f.2 := by omega
          refine Sl.Tr.seq ?_
          refine Sl.Tr.region ?_
          refine Sl.G.ro (Sl.RO.rd (Sl.RO.bF (Sl.RO.lss rfl rfl) (by omega))) rfl ?_
          refine Sl.G.nil ?_
          refine Sl.Post.thenN ?_
          refine Sl.Tr.seq ?_
          refine Sl.Tr.condF rfl ?_
          refine Sl.Tr.exit ?_
          refine Sl.Post.thenE ?_
          refine Sl.Post.thenE ?_
          refine Sl.Post.blockE ?_
          refine Sl.Post.blockN ?_
          refine Sl.Post.thenN ?_
          refine Sl.Tr.region ?_
          refine Sl.G.ro (Sl.RO.rd (Sl.RO.addI rfl rfl (by omega))) rfl ?_
          refine Sl.G.ro (Sl.RO.rd (Sl.RO.move rfl)) rfl ?_
          refine Sl.G.nil ?_
          refine Sl.Post.again ((i + 1, a1 + f.2, cs1.set f.1 (.int .i64 (num ((s.drop a1).take f.2) : Nat)))) ?_ ?_ ?_ ?_ ?_
          rotate_left
          · omega
          · exact ⟨rfl, trivial⟩
          · exact ⟨rfl, rfl, rfl, rfl, trivial⟩
          · exact (.p .h (.p .h .o))
          refine ⟨by omega, ?_⟩
          rw [htk, getF_snoc s f.1 f.2 _ _ _ (by rw [hg]), hg]
          simp only [getF]
          rw [if_neg (by omega)]
    · obtain rfl : i = fs.length := by omega
      rw [List.take_length] at hg
      refine Sl.Tr.seq ?_
      refine Sl.Tr.region ?_
      refine Sl.G.ro (Sl.RO.rd (Sl.RO.bF (Sl.RO.lss rfl rfl) (by omega))) rfl ?_
      refine Sl.G.nil ?_
      refine Sl.Post.thenN ?_
      refine Sl.Tr.seq ?_
      refine Sl.Tr.condF rfl ?_
      refine Sl.Tr.exit ?_
      refine Sl.Post.thenE ?_
      refine Sl.Post.thenE ?_
      refine Sl.Post.blockE ?_
      refine Sl.Post.fin rfl .nil rfl (.p .h (.p .h .n)) ?_ (.inr rfl)
      simp only [getS, hg]
      exact ⟨trivial, trivial⟩
  · refine Sl.FnOk.of (κ := [(0, _), (1, _)]) Go.Proofs.Tryz.func31 rfl rfl Go.Proofs.Tryz.ntmps31 rfl rfl ?_
    refine Sl.Tr.seq ?_
    refine Sl.Tr.region ?_
    refine Sl.G.ro (Sl.RO.rd (Sl.RO.move rfl)) rfl ?_
    refine Sl.G.ro (Sl.RO.rd (Sl.RO.lenSl rfl sl_99)) rfl ?_
    refine Sl.G.ro (Sl.RO.rd (Sl.RO.move rfl)) rfl ?_
    refine Sl.G.nil ?_
    refine Sl.Post.thenN ?_
    refine Sl.Tr.block ?_
    refine Sl.Tr.loop (α := Nat) (fun g => [(8, .int .i64 (g : Nat))]) [(7, _), (6, _), (0, _), (1, _)] (fun g => [pt r (cl [str s, .int .i64 (a : Nat), .bool true] 88), pt b (cl cs T)]) [] (fun g => g = 0) (fun g => fs.length - g) (0) ?_ ⟨rfl, trivial⟩ ⟨rfl, rfl, rfl, rfl, trivial⟩ (.p .h (.p .h .o)) ?_
    · omega
    rintro i hi
    dsimp only [List.cons_append, List.nil_append]
    (try dsimp only at *)
    subst hi
    obtain ⟨f, hf⟩ := get_lt (l := fs) (i := 0) (by omega)
    refine Sl.Tr.seq ?_
    refine Sl.Tr.region ?_
    refine Sl.G.ro (Sl.RO.rd (Sl.RO.bT (Sl.RO.lss rfl rfl) (by omega))) rfl ?_
    refine Sl.G.nil ?_
    refine Sl.Post.thenN ?_
    refine Sl.Tr.seq ?_
    refine Sl.Tr.condT rfl ?_
    refine Sl.Tr.skip ?_
    refine Sl.Post.thenN ?_
    refine Sl.Tr.seq ?_
    refine Sl.Tr.block ?_
    refine Sl.Tr.seq ?_
    refine Sl.Tr.region ?_
    refine Sl.G.ro (Sl.RO.rd (Sl.RO.atEl rfl rfl sl_99 hv (by assumption))) rfl ?_
    refine Sl.G.ro (Sl.RO.rd (Sl.RO.loadEp rfl hv (by assumption) ly_112 rfl)) rfl ?_
    refine Sl.G.alloc zv_112 rfl (fun b0 => ?_)
    refine Sl.G.store rfl rfl rfl rfl ly_112 rfl .h rfl ?_
    refine Sl.G.nil ?_
    refine Sl.Post.thenN ?_
    refine Sl.Tr.seq ?_
    refine Sl.Tr.seq ?_
    refine Sl.Tr.draw (fuel := 23) (listed := [false, false, false, false, false, false, false, false, false, false, false, false, false, false, false, false, false, false, false, false, false, false, false]) mixed rfl rfl ?_
    refine Sl.GD.take (i := 0) rfl rfl rfl (Sl.RO.move rfl) rfl ?_
    refine Sl.GD.take (i := 1) rfl rfl rfl (Sl.RO.move rfl) rfl ?_
    refine Sl.GD.take (i := 2) rfl rfl rfl (Sl.RO.nilCheck rfl) rfl ?_
    refine Sl.GD.take (i := 3) rfl rfl rfl (Sl.RO.fieldAddr rfl fo_88_2) rfl ?_
    refine Sl.GD.rd (i := 4) rfl rfl rfl (Sl.RD.load1 rfl (.t .h) ly_4 rfl) rfl ?_
    refine Sl.GD.take (i := 5) rfl rfl rfl (Sl.RO.move rfl) rfl ?_
    refine Sl.GD.passG (i := 6) rfl rfl rfl rfl rfl ?_
    refine Sl.GD.passG (i := 7) rfl rfl rfl rfl rfl ?_
    refine Sl.GD.passG (i := 8) rfl rfl rfl rfl rfl ?_
    refine Sl.GD.passG (i := 9) rfl rfl rfl rfl rfl ?_
    refine Sl.GD.passG (i := 10) rfl rfl rfl rfl rfl ?_
    refine Sl.GD.passG (i := 11) rfl rfl rfl rfl rfl ?_
    refine Sl.GD.passG (i := 12) rfl rfl rfl rfl rfl ?_
    refine Sl.GD.passG (i := 13) rfl rfl rfl rfl rfl ?_
    refine Sl.GD.passG (i := 14) rfl rfl rfl rfl rfl ?_
    refine Sl.GD.passG (i := 15) rfl rfl rfl rfl rfl ?_
    refine Sl.GD.passG (i := 16) rfl rfl rfl rfl rfl ?_
    refine Sl.GD.passG (i := 17) rfl rfl rfl rfl rfl ?_
    refine Sl.GD.passG (i := 18) rfl rfl rfl rfl rfl ?_
    refine Sl.GD.take (i := 19) rfl rfl rfl (Sl.RO.pickT rfl rfl) rfl ?_
    refine Sl.GD.take (i := 20) rfl rfl rfl (Sl.RO.nilCheck rfl) rfl ?_
    refine Sl.GD.take (i := 21) rfl rfl rfl (Sl.RO.fieldAddr rfl fo_88_2) rfl ?_
    refine Sl.GD.store (i := 22) rfl rfl rfl rfl rfl rfl rfl ly_4 rfl (.t .h) rfl ?_
    refine Sl.GD.done rfl ?_
    refine Sl.Post.thenN ?_
    refine Sl.Tr.seq ?_
    refine Sl.Tr.region ?_
    refine Sl.G.ro (Sl.RO.rd (Sl.RO.move rfl)) rfl ?_
    refine Sl.G.ro (Sl.RO.rd (Sl.RO.nilCheck rfl)) rfl ?_
    refine Sl.G.ro (Sl.RO.rd (Sl.RO.fieldAddr rfl fo_88_2)) rfl ?_
    refine Sl.G.ro (Sl.RD.load1 rfl (.t .h) ly_4 rfl) rfl ?_
    refine Sl.G.nil ?_
    refine Sl.Post.thenN ?_
    refine Sl.Tr.condT rfl ?_
    refine Sl.Tr.ret ?_
    refine Sl.Post.thenR ?_
    refine Sl.Post.blockR ?_
    refine Sl.Post.thenR ?_
    refine Sl.Post.thenR ?_
    refine Sl.Post.blockR ?_
    refine Sl.Post.fin rfl .nil rfl (.p (.t .h) (.p (.t .h) .n)) ?_ (.inl rfl)
    exact ⟨rfl, rfl⟩
theorem reader_get2 (F : Frm) (r b T Tf : Nat) (s : List UInt8) (a : Nat) (sh : Bool) (cs : List Value) (p : Option Addr) (c : Nat) (fs : List (Nat × Nat)) {a' : Nat} {sh' : Bool} {cs' : List Value} (hg : getS s fs a sh cs = (a', sh', cs'))
    (hv : F.has (sA Tf 2 (fldC b) p c fs)) (hs : s.length ≤ 1000000) (ha : a ≤ s.length) (hz : ∀ f ∈ fs, cs[f.1]? = some (.int .i64 0)) (hd : (fs.map (·.1)).Nodup) (hn : ∀ f ∈ fs, f.2 ≤ 3) (hfl : fs ≠ []) (hfl2 : fs.length ≤ 100) :
    FnOk Tryz.prog 31 [.pointer (some ⟨r, 0, none⟩), .slice p fs.length c] [pt r (cl [str s, .int .i64 a, .bool sh] 88), pt b (cl cs T)] F
      (fun v H => v = .tuple #[] ∧ H = [pt r (cl [str s, .int .i64 a', .bool sh'] 88), pt b (cl cs' T)]) := by
  have := reader_get F r b T Tf s a sh cs p c fs hv hs ha hz hd hn hfl hfl2
  simp only [hg] at this
  exact this
end Go.Proofs.YtcaojfapibkplaaGreatDoor
namespace Go.Proofs.YtcaojfapibkplaaGreatDoor
open Go Go.Sl Go.En

theorem wire_domain (F : Frm) (d : Nat) : FnOk Tryz.prog 32 [.pointer (some ⟨d, 0, none⟩)] [] F (fun r H => ∃ b, r = .slice (some ⟨b, 0, none⟩) 2 2 ∧ H = [sA 112 2 (fldC d) (some ⟨b, 0, none⟩) 2 [(0, 1), (1, 2)]]) := by
  refine Sl.FnOk.of (κ := [(0, _)]) Go.Proofs.Tryz.func32 rfl rfl Go.Proofs.Tryz.ntmps32 rfl rfl ?_
  refine Sl.Tr.seq ?_
  refine Sl.Tr.region ?_
  refine Sl.G.ro (Sl.RO.rd (Sl.RO.assign rfl)) rfl ?_
  refine Sl.G.nil ?_
  refine Sl.Post.thenN ?_
  refine Sl.Tr.seq ?_
  refine Sl.Tr.draw (fuel := 10) (listed := [false, false, false, false, false, false, false, false, false, false]) mixed rfl rfl ?_
  refine Sl.GD.take (i := 0) rfl rfl rfl (Sl.RO.move rfl) rfl ?_
  refine Sl.GD.take (i := 1) rfl rfl rfl (Sl.RO.nilCheck rfl) rfl ?_
  refine Sl.GD.take (i := 2) rfl rfl rfl (Sl.RO.fieldAddr rfl fo_96_0) rfl ?_
  refine Sl.GD.take (i := 3) rfl rfl rfl (Sl.RO.build pl_112 zv_112 rfl rfl) rfl ?_
  refine Sl.GD.take (i := 4) rfl rfl rfl (Sl.RO.move rfl) rfl ?_
  refine Sl.GD.take (i := 5) rfl rfl rfl (Sl.RO.nilCheck rfl) rfl ?_
  refine Sl.GD.take (i := 6) rfl rfl rfl (Sl.RO.fieldAddr rfl fo_96_1) rfl ?_
  refine Sl.GD.take (i := 7) rfl rfl rfl (Sl.RO.build pl_112 zv_112 rfl rfl) rfl ?_
  refine Sl.GD.acts (i := 8) rfl rfl rfl (Sl.Acts.buildSlice ap_99 rfl rfl rfl rfl) rfl (fun _ _ hx => ?_) (fun _ hx => by obtain ⟨_, hx, _⟩ := hx; cases hx)
  (obtain ⟨b0, hv, rfl⟩ := hx; cases hv)
  refine Sl.GD.take (i := 9) rfl rfl rfl (Sl.RO.assign rfl) rfl ?_
  refine Sl.GD.done rfl ?_
  refine Sl.Post.thenN ?_
  refine Sl.Tr.ret ?_
  refine Sl.Post.mem (fun hs => Sl.Sat.ptsA (l := [(0, 1), (1, 2)]) (fldC.el d) (rfl) .h hs) ?_
  refine Sl.Post.fin rfl (.tmp rfl .nil) rfl (.p .h .n) ?_ (.inl rfl)
  exact ⟨_, rfl, rfl⟩
theorem wire_queue (F : Frm) (d : Nat) : FnOk Tryz.prog 35 [.pointer (some ⟨d, 0, none⟩)] [] F (fun r H => ∃ b, r = .slice (some ⟨b, 0, none⟩) 3 3 ∧ H = [sA 112 2 (fldC d) (some ⟨b, 0, none⟩) 3 [(0, 3), (1, 3), (2, 1)]]) := by
  refine Sl.FnOk.of (κ := [(0, _)]) Go.Proofs.Tryz.func35 rfl rfl Go.Proofs.Tryz.ntmps35 rfl rfl ?_
  refine Sl.Tr.seq ?_
  refine Sl.Tr.region ?_
  refine Sl.G.ro (Sl.RO.rd (Sl.RO.assign rfl)) rfl ?_
  refine Sl.G.nil ?_
  refine Sl.Post.thenN ?_
  refine Sl.Tr.seq ?_
  refine Sl.Tr.draw (fuel := 16) (listed := [false, false, false, false, false, false, false, false, false, false, false, false, false, false, false, false]) mixed rfl rfl ?_
  refine Sl.GD.take (i := 0) rfl rfl rfl (Sl.RO.move rfl) rfl ?_
  refine Sl.GD.take (i := 1) rfl rfl rfl (Sl.RO.nilCheck rfl) rfl ?_
  refine Sl.GD.take (i := 2) rfl rfl rfl (Sl.RO.fieldAddr rfl fo_106_0) rfl ?_
  refine Sl.GD.take (i := 3) rfl rfl rfl (Sl.RO.fieldAddr rfl fo_104_0) rfl ?_
  refine Sl.GD.take (i := 4) rfl rfl rfl (Sl.RO.build pl_112 zv_112 rfl rfl) rfl ?_
  refine Sl.GD.take (i := 5) rfl rfl rfl (Sl.RO.move rfl) rfl ?_
  refine Sl.GD.take (i := 6) rfl rfl rfl (Sl.RO.nilCheck rfl) rfl ?_
  refine Sl.GD.take (i := 7) rfl rfl rfl (Sl.RO.fieldAddr rfl fo_106_0) rfl ?_
  refine Sl.GD.take (i := 8) rfl rfl rfl (Sl.RO.fieldAddr rfl fo_104_1) rfl ?_
  refine Sl.GD.take (i := 9) rfl rfl rfl (Sl.RO.build pl_112 zv_112 rfl rfl) rfl ?_
  refine Sl.GD.take (i := 10) rfl rfl rfl (Sl.RO.move rfl) rfl ?_
  refine Sl.GD.take (i := 11) rfl rfl rfl (Sl.RO.nilCheck rfl) rfl ?_
  refine Sl.GD.take (i := 12) rfl rfl rfl (Sl.RO.fieldAddr rfl fo_106_1) rfl ?_
  refine Sl.GD.take (i := 13) rfl rfl rfl (Sl.RO.build pl_112 zv_112 rfl rfl) rfl ?_
  refine Sl.GD.acts (i := 14) rfl rfl rfl (Sl.Acts.buildSlice ap_99 rfl rfl rfl rfl) rfl (fun _ _ hx => ?_) (fun _ hx => by obtain ⟨_, hx, _⟩ := hx; cases hx)
  (obtain ⟨b0, hv, rfl⟩ := hx; cases hv)
  refine Sl.GD.take (i := 15) rfl rfl rfl (Sl.RO.assign rfl) rfl ?_
  refine Sl.GD.done rfl ?_
  refine Sl.Post.thenN ?_
  refine Sl.Tr.ret ?_
  refine Sl.Post.mem (fun hs => Sl.Sat.ptsA (l := [(0, 3), (1, 3), (2, 1)]) (fldC.el d) (rfl) .h hs) ?_
  refine Sl.Post.fin rfl (.tmp rfl .nil) rfl (.p .h .n) ?_ (.inl rfl)
  exact ⟨_, rfl, rfl⟩
theorem wire_tail (F : Frm) (d : Nat) : FnOk Tryz.prog 36 [.pointer (some ⟨d, 0, none⟩)] [] F (fun r H => r = .agg #[.pointer (some ⟨d, 2, none⟩), .int .i64 1, .pointer (some ⟨d, 3, none⟩), .int .i64 1, .pointer (some ⟨d, 4, none⟩), .int .i64 2, .pointer (some ⟨d, 5, none⟩), .int .i64 2] ∧ H = []) := by
  refine Sl.FnOk.of (κ := [(0, _)]) Go.Proofs.Tryz.func36 rfl rfl Go.Proofs.Tryz.ntmps36 rfl rfl ?_
  refine Sl.Tr.seq ?_
  refine Sl.Tr.region ?_
  refine Sl.G.alloc zv_113 rfl (fun b0 => ?_)
  refine Sl.G.nil ?_
  refine Sl.Post.thenN ?_
  refine Sl.Tr.seq ?_
  refine Sl.Tr.draw (fuel := 18) (listed := [false, false, false, false, false, false, false, false, false, false, false, false, false, false, false, false, false, false]) mixed rfl rfl ?_
  refine Sl.GD.take (i := 0) rfl rfl rfl (Sl.RO.move rfl) rfl ?_
  refine Sl.GD.take (i := 1) rfl rfl rfl (Sl.RO.nilCheck rfl) rfl ?_
  refine Sl.GD.take (i := 2) rfl rfl rfl (Sl.RO.fieldAddr rfl fo_65_2) rfl ?_
  refine Sl.GD.take (i := 3) rfl rfl rfl (Sl.RO.build pl_112 zv_112 rfl rfl) rfl ?_
  refine Sl.GD.take (i := 4) rfl rfl rfl (Sl.RO.move rfl) rfl ?_
  refine Sl.GD.take (i := 5) rfl rfl rfl (Sl.RO.nilCheck rfl) rfl ?_
  refine Sl.GD.take (i := 6) rfl rfl rfl (Sl.RO.fieldAddr rfl fo_65_3) rfl ?_
  refine Sl.GD.take (i := 7) rfl rfl rfl (Sl.RO.build pl_112 zv_112 rfl rfl) rfl ?_
  refine Sl.GD.take (i := 8) rfl rfl rfl (Sl.RO.move rfl) rfl ?_
  refine Sl.GD.take (i := 9) rfl rfl rfl (Sl.RO.nilCheck rfl) rfl ?_
  refine Sl.GD.take (i := 10) rfl rfl rfl (Sl.RO.fieldAddr rfl fo_65_4) rfl ?_
  refine Sl.GD.take (i := 11) rfl rfl rfl (Sl.RO.build pl_112 zv_112 rfl rfl) rfl ?_
  refine Sl.GD.take (i := 12) rfl rfl rfl (Sl.RO.move rfl) rfl ?_
  refine Sl.GD.take (i := 13) rfl rfl rfl (Sl.RO.nilCheck rfl) rfl ?_
  refine Sl.GD.take (i := 14) rfl rfl rfl (Sl.RO.fieldAddr rfl fo_65_5) rfl ?_
  refine Sl.GD.take (i := 15) rfl rfl rfl (Sl.RO.build pl_112 zv_112 rfl rfl) rfl ?_
  refine Sl.GD.take (i := 16) rfl rfl rfl (Sl.RO.build pl_113 zv_113 rfl rfl) rfl ?_
  refine Sl.GD.store (i := 17) rfl rfl rfl rfl rfl rfl rfl ly_113 rfl .h rfl ?_
  refine Sl.GD.done rfl ?_
  refine Sl.Post.thenN ?_
  refine Sl.Tr.ret ?_
  refine Sl.Post.fin rfl (.cell rfl .h ly_113 rfl .nil) rfl .n ?_ (.inl rfl)
  exact ⟨rfl, rfl⟩
def fieldsOf (k : Int) : Option (List (Nat × Nat)) :=
  if k = 0 then some [(2, 2), (3, 1), (4, 1), (5, 2), (6, 1), (7, 2), (8, 1), (9, 1)] else if k = 1 ∨ k = 2 ∨ k = 7 then some [(1, 2)] else if k = 3 ∨ k = 4 ∨ k = 6 then some [(1, 1)] else if k = 5 then some [] else none
theorem wire_fields (F : Frm) (d T : Nat) (k : Int) (cs : List Value) (hv : F.has (pt d (cl (.int .i64 k :: cs) T))) : FnOk Tryz.prog 45 [.pointer (some ⟨d, 0, none⟩)] [] F
    (fun r H => match fieldsOf k with
      | some fs => ∃ p c, r = .tuple #[.slice p fs.length c, .bool true] ∧ H = [sA 112 2 (fldC d) p c fs]
      | none => r = .tuple #[.slice none 0 0, .bool false] ∧ H = []) := by
  refine Sl.FnOk.of (κ := [(0, _)]) Go.Proofs.Tryz.func45 rfl rfl Go.Proofs.Tryz.ntmps45 rfl rfl ?_
  refine Sl.Tr.seq ?_
  refine Sl.Tr.region ?_
  refine Sl.G.ro (Sl.RO.rd (Sl.RO.assign rfl)) rfl ?_
  refine Sl.G.ro (Sl.RO.rd (Sl.RO.assign rfl)) rfl ?_
  refine Sl.G.nil ?_
  refine Sl.Post.thenN ?_
  refine Sl.Tr.seq ?_
  refine Sl.Tr.draw (fuel := 9) (listed := [false, false, false, false, false, false, false, false, false]) mixed rfl rfl ?_
  refine Sl.GD.take (i := 0) rfl rfl rfl (Sl.RO.move rfl) rfl ?_
  refine Sl.GD.take (i := 1) rfl rfl rfl (Sl.RO.nilCheck rfl) rfl ?_
  refine Sl.GD.take (i := 2) rfl rfl rfl (Sl.RO.fieldAddr rfl fo_80_2) rfl ?_
  refine Sl.GD.take (i := 3) rfl rfl rfl (Sl.RO.move rfl) rfl ?_
  refine Sl.GD.take (i := 4) rfl rfl rfl (Sl.RO.nilCheck rfl) rfl ?_
  refine Sl.GD.take (i := 5) rfl rfl rfl (Sl.RO.fieldAddr rfl fo_80_2) rfl ?_
  refine Sl.GD.take (i := 6) rfl rfl rfl (Sl.RO.fieldAddr rfl fo_78_4) rfl ?_
  refine Sl.GD.take (i := 7) rfl rfl rfl (Sl.RO.assign rfl) rfl ?_
  refine Sl.GD.take (i := 8) rfl rfl rfl (Sl.RO.assign rfl) rfl ?_
  refine Sl.GD.done rfl ?_
  refine Sl.Post.thenN ?_
  refine Sl.Tr.seq ?_
  refine Sl.Tr.seq ?_
  refine Sl.Tr.region ?_
  refine Sl.G.ro (Sl.RO.rd (Sl.RO.move rfl)) rfl ?_
  refine Sl.G.ro (Sl.RO.rd (Sl.RO.nilCheck rfl)) rfl ?_
  refine Sl.G.ro (Sl.RO.rd (Sl.RO.fieldAddr rfl fo_80_0)) rfl ?_
  refine Sl.G.ro (Sl.RO.rd (Sl.RO.load1 rfl hv ly_3 (subl1 rfl))) rfl ?_
  refine Sl.G.nil ?_
  refine Sl.Post.thenN ?_
  refine Sl.Tr.block ?_
  refine Sl.Tr.seq ?_
  refine Sl.Tr.region ?_
  refine Sl.G.cmp (Sl.RO.eql rfl rfl) rfl (fun hc0 => ?_) (fun hc0 => ?_)
  refine Sl.G.ro (Sl.RO.rd (Sl.RO.assign rfl)) rfl ?_
  refine Sl.G.nil ?_
  refine Sl.Post.thenN ?_
  refine Sl.Tr.condT rfl ?_
  refine Sl.Tr.seq ?_
  refine Sl.Tr.draw (fuel := 35) (listed := (false :: false :: false :: false :: false :: false :: false :: false :: false :: false :: false :: false :: false :: false :: false :: false :: false :: false :: false :: false :: false :: false :: false :: false :: false :: false :: false :: false :: false :: false :: false :: false :: false :: false :: false :: [])) mixed rfl rfl ?_
  refine Sl.GD.take (i := 0) rfl rfl rfl (Sl.RO.move rfl) rfl ?_
  refine Sl.GD.take (i := 1) rfl rfl rfl (Sl.RO.nilCheck rfl) rfl ?_
  refine Sl.GD.take (i := 2) rfl rfl rfl (Sl.RO.fieldAddr rfl fo_78_0) rfl ?_
  refine Sl.GD.take (i := 3) rfl rfl rfl (Sl.RO.build pl_112 zv_112 rfl rfl) rfl ?_
  refine Sl.GD.take (i := 4) rfl rfl rfl (Sl.RO.move rfl) rfl ?_
  refine Sl.GD.take (i := 5) rfl rfl rfl (Sl.RO.nilCheck rfl) rfl ?_
  refine Sl.GD.take (i := 6) rfl rfl rfl (Sl.RO.fieldAddr rfl fo_78_1) rfl ?_
  refine Sl.GD.take (i := 7) rfl rfl rfl (Sl.RO.build pl_112 zv_112 rfl rfl) rfl ?_
  refine Sl.GD.take (i := 8) rfl rfl rfl (Sl.RO.move rfl) rfl ?_
  refine Sl.GD.take (i := 9) rfl rfl rfl (Sl.RO.nilCheck rfl) rfl ?_
  refine Sl.GD.take (i := 10) rfl rfl rfl (Sl.RO.fieldAddr rfl fo_78_2) rfl ?_
  refine Sl.GD.take (i := 11) rfl rfl rfl (Sl.RO.build pl_112 zv_112 rfl rfl) rfl ?_
  refine Sl.GD.take (i := 12) rfl rfl rfl (Sl.RO.move rfl) rfl ?_
  refine Sl.GD.take (i := 13) rfl rfl rfl (Sl.RO.nilCheck rfl) rfl ?_
  refine Sl.GD.take (i := 14) rfl rfl rfl (Sl.RO.fieldAddr rfl fo_78_3) rfl ?_
  refine Sl.GD.take (i := 15) rfl rfl rfl (Sl.RO.build pl_112 zv_112 rfl rfl) rfl ?_
  refine Sl.GD.take (i := 16) rfl rfl rfl (Sl.RO.move rfl) rfl ?_
  refine Sl.GD.take (i := 17) rfl rfl rfl (Sl.RO.nilCheck rfl) rfl ?_
  refine Sl.GD.take (i := 18) rfl rfl rfl (Sl.RO.fieldAddr rfl fo_76_0) rfl ?_
  refine Sl.GD.take (i := 19) rfl rfl rfl (Sl.RO.build pl_112 zv_112 rfl rfl) rfl ?_
  refine Sl.GD.take (i := 20) rfl rfl rfl (Sl.RO.move rfl) rfl ?_
  refine Sl.GD.take (i := 21) rfl rfl rfl (Sl.RO.nilCheck rfl) rfl ?_
  refine Sl.GD.take (i := 22) rfl rfl rfl (Sl.RO.fieldAddr rfl fo_76_1) rfl ?_
  refine Sl.GD.take (i := 23) rfl rfl rfl (Sl.RO.build pl_112 zv_112 rfl rfl) rfl ?_
  refine Sl.GD.take (i := 24) rfl rfl rfl (Sl.RO.move rfl) rfl ?_
  refine Sl.GD.take (i := 25) rfl rfl rfl (Sl.RO.nilCheck rfl) rfl ?_
  refine Sl.GD.take (i := 26) rfl rfl rfl (Sl.RO.fieldAddr rfl fo_76_2) rfl ?_
  refine Sl.GD.take (i := 27) rfl rfl rfl (Sl.RO.build pl_112 zv_112 rfl rfl) rfl ?_
  refine Sl.GD.take (i := 28) rfl rfl rfl (Sl.RO.move rfl) rfl ?_
  refine Sl.GD.take (i := 29) rfl rfl rfl (Sl.RO.nilCheck rfl) rfl ?_
  refine Sl.GD.take (i := 30) rfl rfl rfl (Sl.RO.fieldAddr rfl fo_76_3) rfl ?_
  refine Sl.GD.take (i := 31) rfl rfl rfl (Sl.RO.build pl_112 zv_112 rfl rfl) rfl ?_
  refine Sl.GD.acts (i := 32) rfl rfl rfl (Sl.Acts.buildSlice ap_99 rfl rfl rfl rfl) rfl (fun _ _ hx => ?_) (fun _ hx => by obtain ⟨_, hx, _⟩ := hx; cases hx)
  (obtain ⟨b1, hv, rfl⟩ := hx; cases hv)
  refine Sl.GD.take (i := 33) rfl rfl rfl (Sl.RO.assign rfl) rfl ?_
  refine Sl.GD.take (i := 34) rfl rfl rfl (Sl.RO.assign rfl) rfl ?_
  refine Sl.GD.done rfl ?_
  refine Sl.Post.thenN ?_
  refine Sl.Tr.ret ?_
  refine Sl.Post.blockR ?_
  refine Sl.Post.thenR ?_
  rotate_left
  refine Sl.G.ro (Sl.RO.rd (Sl.RO.assign rfl)) rfl ?_
  refine Sl.G.nil ?_
  refine Sl.Post.thenN ?_
  refine Sl.Tr.condF rfl ?_
  refine Sl.Tr.seq ?_
  refine Sl.Tr.seq ?_
  refine Sl.Tr.region ?_
  refine Sl.G.cmp (Sl.RO.eql rfl rfl) rfl (fun hc2 => ?_) (fun hc2 => ?_)
  refine Sl.G.ro (Sl.RO.rd (Sl.RO.assign rfl)) rfl ?_
  refine Sl.G.nil ?_
  refine Sl.Post.thenN ?_
  refine Sl.Tr.condT rfl ?_
  refine Sl.Tr.skip ?_
  refine Sl.Post.thenN ?_
  refine Sl.Tr.condT rfl ?_
  refine Sl.Tr.seq ?_
  refine Sl.Tr.region ?_
  refine Sl.G.ro (Sl.RO.rd (Sl.RO.move rfl)) rfl ?_
  refine Sl.G.ro (Sl.RO.rd (Sl.RO.nilCheck rfl)) rfl ?_
  refine Sl.G.ro (Sl.RO.rd (Sl.RO.fieldAddr rfl fo_80_1)) rfl ?_
  refine Sl.G.ro (Sl.RO.rd (Sl.RO.build pl_112 zv_112 rfl rfl)) rfl ?_
  refine Sl.G.buildSlice ap_99 rfl rfl rfl rfl rfl (fun b3 => ?_)
  refine Sl.G.ro (Sl.RO.rd (Sl.RO.assign rfl)) rfl ?_
  refine Sl.G.ro (Sl.RO.rd (Sl.RO.assign rfl)) rfl ?_
  refine Sl.G.nil ?_
  refine Sl.Post.thenN ?_
  refine Sl.Tr.ret ?_
  refine Sl.Post.blockR ?_
  refine Sl.Post.thenR ?_
  rotate_left
  refine Sl.G.ro (Sl.RO.rd (Sl.RO.assign rfl)) rfl ?_
  refine Sl.G.nil ?_
  refine Sl.Post.thenN ?_
  refine Sl.Tr.condF rfl ?_
  refine Sl.Tr.seq ?_
  refine Sl.Tr.region ?_
  refine Sl.G.cmp (Sl.RO.eql rfl rfl) rfl (fun hc4 => ?_) (fun hc4 => ?_)
  refine Sl.G.ro (Sl.RO.rd (Sl.RO.assign rfl)) rfl ?_
  refine Sl.G.nil ?_
  refine Sl.Post.thenN ?_
  refine Sl.Tr.condT rfl ?_
  refine Sl.Tr.skip ?_
  refine Sl.Post.thenN ?_
  refine Sl.Tr.condT rfl ?_
  refine Sl.Tr.seq ?_
  refine Sl.Tr.region ?_
  refine Sl.G.ro (Sl.RO.rd (Sl.RO.move rfl)) rfl ?_
  refine Sl.G.ro (Sl.RO.rd (Sl.RO.nilCheck rfl)) rfl ?_
  refine Sl.G.ro (Sl.RO.rd (Sl.RO.fieldAddr rfl fo_80_1)) rfl ?_
  refine Sl.G.ro (Sl.RO.rd (Sl.RO.build pl_112 zv_112 rfl rfl)) rfl ?_
  refine Sl.G.buildSlice ap_99 rfl rfl rfl rfl rfl (fun b5 => ?_)
  refine Sl.G.ro (Sl.RO.rd (Sl.RO.assign rfl)) rfl ?_
  refine Sl.G.ro (Sl.RO.rd (Sl.RO.assign rfl)) rfl ?_
  refine Sl.G.nil ?_
  refine Sl.Post.thenN ?_
  refine Sl.Tr.ret ?_
  refine Sl.Post.blockR ?_
  refine Sl.Post.thenR ?_
  rotate_left
  refine Sl.G.ro (Sl.RO.rd (Sl.RO.assign rfl)) rfl ?_
  refine Sl.G.nil ?_
  refine Sl.Post.thenN ?_
  refine Sl.Tr.condF rfl ?_
  refine Sl.Tr.region ?_
  refine Sl.G.cmp (Sl.RO.eql rfl rfl) rfl (fun hc6 => ?_) (fun hc6 => ?_)
  refine Sl.G.ro (Sl.RO.rd (Sl.RO.assign rfl)) rfl ?_
  refine Sl.G.nil ?_
  refine Sl.Post.thenN ?_
  refine Sl.Tr.condT rfl ?_
  refine Sl.Tr.seq ?_
  refine Sl.Tr.region ?_
  refine Sl.G.ro (Sl.RO.rd (Sl.RO.move rfl)) rfl ?_
  refine Sl.G.ro (Sl.RO.rd (Sl.RO.nilCheck rfl)) rfl ?_
  refine Sl.G.ro (Sl.RO.rd (Sl.RO.fieldAddr rfl fo_80_1)) rfl ?_
  refine Sl.G.ro (Sl.RO.rd (Sl.RO.build pl_112 zv_112 rfl rfl)) rfl ?_
  refine Sl.G.buildSlice ap_99 rfl rfl rfl rfl rfl (fun b7 => ?_)
  refine Sl.G.ro (Sl.RO.rd (Sl.RO.assign rfl)) rfl ?_
  refine Sl.G.ro (Sl.RO.rd (Sl.RO.assign rfl)) rfl ?_
  refine Sl.G.nil ?_
  refine Sl.Post.thenN ?_
  refine Sl.Tr.ret ?_
  refine Sl.Post.blockR ?_
  refine Sl.Post.thenR ?_
  rotate_left
  refine Sl.G.ro (Sl.RO.rd (Sl.RO.assign rfl)) rfl ?_
  refine Sl.G.nil ?_
  refine Sl.Post.thenN ?_
  refine Sl.Tr.condF rfl ?_
  refine Sl.Tr.seq ?_
  refine Sl.Tr.seq ?_
  refine Sl.Tr.region ?_
  refine Sl.G.cmp (Sl.RO.eql rfl rfl) rfl (fun hc8 => ?_) (fun hc8 => ?_)
  refine Sl.G.ro (Sl.RO.rd (Sl.RO.assign rfl)) rfl ?_
  refine Sl.G.nil ?_
  refine Sl.Post.thenN ?_
  refine Sl.Tr.condT rfl ?_
  refine Sl.Tr.skip ?_
  refine Sl.Post.thenN ?_
  refine Sl.Tr.condT rfl ?_
  refine Sl.Tr.seq ?_
  refine Sl.Tr.region ?_
  refine Sl.G.ro (Sl.RO.rd (Sl.RO.move rfl)) rfl ?_
  refine Sl.G.ro (Sl.RO.rd (Sl.RO.nilCheck rfl)) rfl ?_
  refine Sl.G.ro (Sl.RO.rd (Sl.RO.fieldAddr rfl fo_80_1)) rfl ?_
  refine Sl.G.ro (Sl.RO.rd (Sl.RO.build pl_112 zv_112 rfl rfl)) rfl ?_
  refine Sl.G.buildSlice ap_99 rfl rfl rfl rfl rfl (fun b9 => ?_)
  refine Sl.G.ro (Sl.RO.rd (Sl.RO.assign rfl)) rfl ?_
  refine Sl.G.ro (Sl.RO.rd (Sl.RO.assign rfl)) rfl ?_
  refine Sl.G.nil ?_
  refine Sl.Post.thenN ?_
  refine Sl.Tr.ret ?_
  refine Sl.Post.blockR ?_
  refine Sl.Post.thenR ?_
  rotate_left
  refine Sl.G.ro (Sl.RO.rd (Sl.RO.assign rfl)) rfl ?_
  refine Sl.G.nil ?_
  refine Sl.Post.thenN ?_
  refine Sl.Tr.condF rfl ?_
  refine Sl.Tr.seq ?_
  refine Sl.Tr.region ?_
  refine Sl.G.cmp (Sl.RO.eql rfl rfl) rfl (fun hc10 => ?_) (fun hc10 => ?_)
  refine Sl.G.ro (Sl.RO.rd (Sl.RO.assign rfl)) rfl ?_
  refine Sl.G.nil ?_
  refine Sl.Post.thenN ?_
  refine Sl.Tr.condT rfl ?_
  refine Sl.Tr.skip ?_
  refine Sl.Post.thenN ?_
  refine Sl.Tr.condT rfl ?_
  refine Sl.Tr.seq ?_
  refine Sl.Tr.region ?_
  refine Sl.G.ro (Sl.RO.rd (Sl.RO.move rfl)) rfl ?_
  refine Sl.G.ro (Sl.RO.rd (Sl.RO.nilCheck rfl)) rfl ?_
  refine Sl.G.ro (Sl.RO.rd (Sl.RO.fieldAddr rfl fo_80_1)) rfl ?_
  refine Sl.G.ro (Sl.RO.rd (Sl.RO.build pl_112 zv_112 rfl rfl)) rfl ?_
  refine Sl.G.buildSlice ap_99 rfl rfl rfl rfl rfl (fun b11 => ?_)
  refine Sl.G.ro (Sl.RO.rd (Sl.RO.assign rfl)) rfl ?_
  refine Sl.G.ro (Sl.RO.rd (Sl.RO.assign rfl)) rfl ?_
  refine Sl.G.nil ?_
  refine Sl.Post.thenN ?_
  refine Sl.Tr.ret ?_
  refine Sl.Post.blockR ?_
  refine Sl.Post.thenR ?_
  rotate_left
  refine Sl.G.ro (Sl.RO.rd (Sl.RO.assign rfl)) rfl ?_
  refine Sl.G.nil ?_
  refine Sl.Post.thenN ?_
  refine Sl.Tr.condF rfl ?_
  refine Sl.Tr.region ?_
  refine Sl.G.cmp (Sl.RO.eql rfl rfl) rfl (fun hc12 => ?_) (fun hc12 => ?_)
  refine Sl.G.ro (Sl.RO.rd (Sl.RO.assign rfl)) rfl ?_
  refine Sl.G.nil ?_
  refine Sl.Post.thenN ?_
  refine Sl.Tr.condT rfl ?_
  refine Sl.Tr.seq ?_
  refine Sl.Tr.region ?_
  refine Sl.G.ro (Sl.RO.rd (Sl.RO.move rfl)) rfl ?_
  refine Sl.G.ro (Sl.RO.rd (Sl.RO.nilCheck rfl)) rfl ?_
  refine Sl.G.ro (Sl.RO.rd (Sl.RO.fieldAddr rfl fo_80_1)) rfl ?_
  refine Sl.G.ro (Sl.RO.rd (Sl.RO.build pl_112 zv_112 rfl rfl)) rfl ?_
  refine Sl.G.buildSlice ap_99 rfl rfl rfl rfl rfl (fun b13 => ?_)
  refine Sl.G.ro (Sl.RO.rd (Sl.RO.assign rfl)) rfl ?_
  refine Sl.G.ro (Sl.RO.rd (Sl.RO.assign rfl)) rfl ?_
  refine Sl.G.nil ?_
  refine Sl.Post.thenN ?_
  refine Sl.Tr.ret ?_
  refine Sl.Post.blockR ?_
  refine Sl.Post.thenR ?_
  rotate_left
  refine Sl.G.ro (Sl.RO.rd (Sl.RO.assign rfl)) rfl ?_
  refine Sl.G.nil ?_
  refine Sl.Post.thenN ?_
  refine Sl.Tr.condF rfl ?_
  refine Sl.Tr.seq ?_
  refine Sl.Tr.region ?_
  refine Sl.G.cmp (Sl.RO.eql rfl rfl) rfl (fun hc14 => ?_) (fun hc14 => ?_)
  refine Sl.G.ro (Sl.RO.rd (Sl.RO.assign rfl)) rfl ?_
  refine Sl.G.nil ?_
  refine Sl.Post.thenN ?_
  refine Sl.Tr.condT rfl ?_
  refine Sl.Tr.seq ?_
  refine Sl.Tr.region ?_
  refine Sl.G.ro (Sl.RO.rd (Sl.RO.assign rfl)) rfl ?_
  refine Sl.G.ro (Sl.RO.rd (Sl.RO.assign rfl)) rfl ?_
  refine Sl.G.nil ?_
  refine Sl.Post.thenN ?_
  refine Sl.Tr.ret ?_
  refine Sl.Post.blockR ?_
  refine Sl.Post.thenR ?_
  rotate_left
  refine Sl.G.ro (Sl.RO.rd (Sl.RO.assign rfl)) rfl ?_
  refine Sl.G.nil ?_
  refine Sl.Post.thenN ?_
  refine Sl.Tr.condF rfl ?_
  refine Sl.Tr.skip ?_
  refine Sl.Post.blockN ?_
  refine Sl.Post.thenN ?_
  refine Sl.Tr.seq ?_
  refine Sl.Tr.region ?_
  refine Sl.G.ro (Sl.RO.rd (Sl.RO.assign rfl)) rfl ?_
  refine Sl.G.ro (Sl.RO.rd (Sl.RO.assign rfl)) rfl ?_
  refine Sl.G.nil ?_
  refine Sl.Post.thenN ?_
  refine Sl.Tr.ret ?_
  rotate_left
  · obtain rfl : k = 0 := by assumption
    refine Sl.Post.mem (fun hs => Sl.Sat.ptsA (l := [(2, 2), (3, 1), (4, 1), (5, 2), (6, 1), (7, 2), (8, 1), (9, 1)]) (fldC.el d) (rfl) .h hs) ?_
    refine Sl.Post.fin rfl (.tmp rfl (.tmp rfl .nil)) rfl (.p .h .n) ?_ (.inl rfl)
    exact ⟨_, _, rfl, rfl⟩
  · obtain rfl : k = 1 := by assumption
    refine Sl.Post.mem (fun hs => Sl.Sat.ptsA (l := [(1, 2)]) (fldC.el d) (rfl) .h hs) ?_
    refine Sl.Post.fin rfl (.tmp rfl (.tmp rfl .nil)) rfl (.p .h .n) ?_ (.inl rfl)
    exact ⟨_, _, rfl, rfl⟩
  · obtain rfl : k = 2 := by assumption
    refine Sl.Post.mem (fun hs => Sl.Sat.ptsA (l := [(1, 2)]) (fldC.el d) (rfl) .h hs) ?_
    refine Sl.Post.fin rfl (.tmp rfl (.tmp rfl .nil)) rfl (.p .h .n) ?_ (.inl rfl)
    exact ⟨_, _, rfl, rfl⟩
  · obtain rfl : k = 7 := by assumption
    refine Sl.Post.mem (fun hs => Sl.Sat.ptsA (l := [(1, 2)]) (fldC.el d) (rfl) .h hs) ?_
    refine Sl.Post.fin rfl (.tmp rfl (.tmp rfl .nil)) rfl (.p .h .n) ?_ (.inl rfl)
    exact ⟨_, _, rfl, rfl⟩
  · obtain rfl : k = 3 := by assumption
    refine Sl.Post.mem (fun hs => Sl.Sat.ptsA (l := [(1, 1)]) (fldC.el d) (rfl) .h hs) ?_
    refine Sl.Post.fin rfl (.tmp rfl (.tmp rfl .nil)) rfl (.p .h .n) ?_ (.inl rfl)
    exact ⟨_, _, rfl, rfl⟩
  · obtain rfl : k = 4 := by assumption
    refine Sl.Post.mem (fun hs => Sl.Sat.ptsA (l := [(1, 1)]) (fldC.el d) (rfl) .h hs) ?_
    refine Sl.Post.fin rfl (.tmp rfl (.tmp rfl .nil)) rfl (.p .h .n) ?_ (.inl rfl)
    exact ⟨_, _, rfl, rfl⟩
  · obtain rfl : k = 6 := by assumption
    refine Sl.Post.mem (fun hs => Sl.Sat.ptsA (l := [(1, 1)]) (fldC.el d) (rfl) .h hs) ?_
    refine Sl.Post.fin rfl (.tmp rfl (.tmp rfl .nil)) rfl (.p .h .n) ?_ (.inl rfl)
    exact ⟨_, _, rfl, rfl⟩
  · obtain rfl : k = 5 := by assumption
    refine Post.nilS 112 2 (fldC d) ?_
    refine Sl.Post.fin rfl (.tmp rfl (.tmp rfl .nil)) rfl (.p .h .n) ?_ (.inl rfl)
    exact ⟨_, _, rfl, rfl⟩
  · refine Sl.Post.fin rfl (.tmp rfl (.tmp rfl .nil)) rfl .n ?_ (.inl rfl)
    have hk : fieldsOf k = none := by unfold fieldsOf; rw [if_neg (by assumption), if_neg (by omega), if_neg (by omega), if_neg (by assumption)]
    rw [hk]
    exact ⟨rfl, rfl⟩

/-! what is read: positions in the bytes -/
def rdN (s : List UInt8) (n a : Nat) : Option (Nat × Nat) := if n > s.length - a then none else some (num ((s.drop a).take n), a + n)
def rdUnits (k m : Nat) (s : List UInt8) (a : Nat) : Option (Units × Nat) := (rdN s k a).bind fun x => (rdN s m x.2).map fun y => (⟨x.1, y.1⟩, y.2)
def rdMany {α : Type} (p : Nat → Option (α × Nat)) : Nat → Nat → Option (List α × Nat)
  | 0, a => some ([], a)
  | n + 1, a => (p a).bind fun x => (rdMany p n x.2).map fun y => (x.1 :: y.1, y.2)
def rdList {α : Type} (s : List UInt8) (p : Nat → Option (α × Nat)) (a : Nat) : Option (List α × Nat) := (rdN s 1 a).bind fun x => rdMany p x.1 x.2
/-- reader r: the bytes, how far, whether short -/
abbrev rdA (r : Nat) (s : List UInt8) (a : Nat) (sh : Bool) : Assn := pt r (cl [str s, .int .i64 a, .bool sh] 88)
/-- How a reading ends. -/
def RdR {α : Type} (s : List UInt8) (p : Nat → Option (α × Nat)) (a : Nat) (sh : Bool) (u : α) (a' : Nat) (sh' : Bool) : Prop :=
  a' ≤ s.length ∧ (sh = true → sh' = true) ∧ (sh = false → match p a with | some x => sh' = false ∧ u = x.1 ∧ a' = x.2 | none => sh' = true)

theorem getS_units (s : List UInt8) (k m a : Nat) (sh : Bool) (ha : a ≤ s.length) : ∃ u a' sh', getS s [(0, k), (1, m)] a sh (Units.cells ⟨0, 0⟩) = (a', sh', Units.cells u) ∧ RdR s (rdUnits k m s) a sh u a' sh' := by
  cases sh
  · simp only [getS, getF, rdUnits, rdN, RdR]
    by_cases h1 : k > s.length - a
    · rw [if_pos h1]
      exact ⟨⟨0, 0⟩, a, true, rfl, ha, fun h => (by cases h), fun _ => (by simp [h1])⟩
    · rw [if_neg h1]
      by_cases h2 : m > s.length - (a + k)
      · rw [if_pos h2]
        exact ⟨⟨_, 0⟩, a + k, true, rfl, by omega, fun h => (by cases h), fun _ => (by simp [h1, h2])⟩
      · rw [if_neg h2]
        exact ⟨⟨_, _⟩, a + k + m, false, rfl, by omega, fun h => (by cases h), fun _ => (by simp [h1, h2])⟩
  · exact ⟨⟨0, 0⟩, a, true, rfl, ha, fun _ => rfl, fun h => by cases h⟩
end Go.Proofs.YtcaojfapibkplaaGreatDoor
namespace Go.Proofs.YtcaojfapibkplaaGreatDoor
open Go Go.Sl Go.En

theorem cfg_11 (F : Frm) (r d t : Nat) (s : List UInt8) (a : Nat) (sh : Bool) (ht : F.has (pt t (cl [.pointer (some ⟨r, 0, none⟩)] 86))) (hs : s.length ≤ 1000000) (ha : a ≤ s.length) :
    FnOk Tryz.prog 30 [.pointer (some ⟨d, 0, none⟩), .pointer (some ⟨t, 0, none⟩)] [rdA r s a sh, pt d (cl (Units.cells ⟨0, 0⟩) 96)] F
      (fun v H => ∃ u a' sh', v = .tuple #[] ∧ H = [rdA r s a' sh', pt d (cl (Units.cells u) 96)] ∧ RdR s (rdUnits 1 2 s) a sh u a' sh') := by
  obtain ⟨u, a', sh', hg, hr⟩ := getS_units s 1 2 a sh ha
  refine Sl.FnOk.of (κ := [(0, _), (1, _)]) Go.Proofs.Tryz.func30 rfl rfl Go.Proofs.Tryz.ntmps30 rfl rfl ?_
  refine Sl.Tr.draw (fuel := 4) (listed := [false, false, false, false]) mixed rfl rfl ?_
  refine Sl.GD.take (i := 0) rfl rfl rfl (Sl.RO.load1 rfl ht ly_86 rfl) rfl ?_
  refine Sl.GD.take (i := 1) rfl rfl rfl (Sl.RO.move rfl) rfl ?_
  refine Sl.GD.call (i := 2) rfl rfl rfl rfl rfl .n (.c .n) .n (fun G' hle hhas => Go.Proofs.YtcaojfapibkplaaGreatDoor.wire_domain  ..) rfl (fun v K hR => ?_)
  obtain ⟨b0, ⟨rfl, rfl⟩⟩ := hR
  refine Sl.GD.app (.c .n) ?_
  refine Sl.GD.call (i := 3) rfl rfl rfl rfl rfl .n (.c (.c .n)) (.p (.t .h) (.p (.t .h) .n)) (fun G' hle hhas => reader_get (fs := [(0, 1), (1, 2)]) (hv := hhas _ (Sl.memAt 0 rfl)) (hs := (by assumption)) (ha := (by assumption)) (hz := (by simp)) (hd := (by decide)) (hn := (by decide)) (hfl := (by decide)) (hfl2 := (by decide)) ..) rfl (fun v K hR => ?_)
  obtain ⟨rfl, rfl⟩ := hR
  refine Sl.GD.app (.c (.c .n)) ?_
  refine Sl.GD.done rfl ?_
  simp only [hg]
  refine Sl.Post.fin rfl .nil rfl (.p .h (.p .h .n)) ?_ (.inr rfl)
  exact ⟨u, a', sh', rfl, rfl, hr⟩

def rdQueue (s : List UInt8) (a : Nat) : Option (QueueV × Nat) := (rdUnits 3 3 s a).bind fun x => (rdN s 1 x.2).map fun y => (⟨x.1, y.1⟩, y.2)
theorem getS_queue (s : List UInt8) (a : Nat) (sh : Bool) (ha : a ≤ s.length) : ∃ u a' sh', getS s [(0, 3), (1, 3), (2, 1)] a sh (QueueV.cells ⟨⟨0, 0⟩, 0⟩) = (a', sh', QueueV.cells u) ∧ RdR s (rdQueue s) a sh u a' sh' := by
  cases sh
  · simp only [getS, getF, rdQueue, rdUnits, rdN, RdR]
    by_cases h1 : 3 > s.length - a
    · rw [if_pos h1]
      exact ⟨⟨⟨0, 0⟩, 0⟩, a, true, rfl, ha, fun h => (by cases h), fun _ => (by simp [h1])⟩
    · rw [if_neg h1]
      by_cases h2 : 3 > s.length - (a + 3)
      · rw [if_pos h2]
        exact ⟨⟨⟨_, 0⟩, 0⟩, a + 3, true, rfl, by omega, fun h => (by cases h), fun _ => (by simp [h1, h2])⟩
      · rw [if_neg h2]
        by_cases h3 : 1 > s.length - (a + 3 + 3)
        · have h4 : s.length - (a + 3 + 3) = 0 := by omega
          rw [if_pos h3]
          exact ⟨⟨⟨_, _⟩, 0⟩, a + 3 + 3, true, rfl, by omega, fun h => (by cases h), fun _ => (by simp [h1, h2, h4])⟩
        · have h4 : ¬ s.length - (a + 3 + 3) = 0 := by omega
          rw [if_neg h3]
          exact ⟨⟨⟨_, _⟩, _⟩, a + 3 + 3 + 1, false, rfl, by omega, fun h => (by cases h), fun _ => (by simp [h1, h2, h4])⟩
  · exact ⟨⟨⟨0, 0⟩, 0⟩, a, true, rfl, ha, fun _ => rfl, fun h => (by cases h)⟩
theorem cfg_2 (F : Frm) (r d t : Nat) (s : List UInt8) (a : Nat) (sh : Bool) (ht : F.has (pt t (cl [.pointer (some ⟨r, 0, none⟩)] 86))) (hs : s.length ≤ 1000000) (ha : a ≤ s.length) :
    FnOk Tryz.prog 34 [.pointer (some ⟨d, 0, none⟩), .pointer (some ⟨t, 0, none⟩)] [rdA r s a sh, pt d (cl (QueueV.cells ⟨⟨0, 0⟩, 0⟩) 106)] F
      (fun v H => ∃ u a' sh', v = .tuple #[] ∧ H = [rdA r s a' sh', pt d (cl (QueueV.cells u) 106)] ∧ RdR s (rdQueue s) a sh u a' sh') := by
  obtain ⟨u, a', sh', hg, hr⟩ := getS_queue s a sh ha
  refine Sl.FnOk.of (κ := [(0, _), (1, _)]) Go.Proofs.Tryz.func34 rfl rfl Go.Proofs.Tryz.ntmps34 rfl rfl ?_
  refine Sl.Tr.draw (fuel := 4) (listed := [false, false, false, false]) mixed rfl rfl ?_
  refine Sl.GD.take (i := 0) rfl rfl rfl (Sl.RO.load1 rfl ht ly_86 rfl) rfl ?_
  refine Sl.GD.take (i := 1) rfl rfl rfl (Sl.RO.move rfl) rfl ?_
  refine Sl.GD.call (i := 2) rfl rfl rfl rfl rfl .n (.c .n) .n (fun G' hle hhas => Go.Proofs.YtcaojfapibkplaaGreatDoor.wire_queue  ..) rfl (fun v K hR => ?_)
  obtain ⟨b0, ⟨rfl, rfl⟩⟩ := hR
  refine Sl.GD.app (.c .n) ?_
  refine Sl.GD.call (i := 3) rfl rfl rfl rfl rfl .n (.c (.c .n)) (.p (.t .h) (.p (.t .h) .n)) (fun G' hle hhas => reader_get (fs := [(0, 3), (1, 3), (2, 1)]) (hv := hhas _ (Sl.memAt 0 rfl)) (hs := (by assumption)) (ha := (by assumption)) (hz := (by simp)) (hd := (by decide)) (hn := (by decide)) (hfl := (by decide)) (hfl2 := (by decide)) ..) rfl (fun v K hR => ?_)
  obtain ⟨rfl, rfl⟩ := hR
  refine Sl.GD.app (.c (.c .n)) ?_
  refine Sl.GD.done rfl ?_
  simp only [hg]
  refine Sl.Post.fin rfl .nil rfl (.p .h (.p .h .n)) ?_ (.inr rfl)
  exact ⟨u, a', sh', rfl, rfl, hr⟩

/-- What many gives. -/
theorem getS_one (s : List UInt8) (a : Nat) (sh : Bool) (ha : a ≤ s.length) : ∃ (u : Nat) (a' : Nat) (sh' : Bool), getS s [(0, 1)] a sh (intE 0) = (a', sh', intE u) ∧ RdR s (rdN s 1) a sh u a' sh' ∧ u ≤ 255 := by
  cases sh
  · simp only [getS, getF, rdN, RdR]
    by_cases h1 : 1 > s.length - a
    · have h4 : s.length - a = 0 := by omega
      rw [if_pos h1]
      exact ⟨0, a, true, rfl, ⟨ha, fun h => (by cases h), fun _ => (by simp [h4])⟩, by omega⟩
    · have h4 : ¬ s.length - a = 0 := by omega
      rw [if_neg h1]
      refine ⟨_, a + 1, false, rfl, ⟨by omega, fun h => (by cases h), fun _ => (by simp [h4])⟩, ?_⟩
      have := num_lt ((s.drop a).take 1)
      have h2 : ((s.drop a).take 1).length = 1 := by simp; omega
      rw [h2] at this
      omega
  · exact ⟨0, a, true, rfl, ⟨ha, fun _ => rfl, fun h => (by cases h)⟩, by omega⟩
theorem rdMany_snoc {α : Type} (p : Nat → Option (α × Nat)) : ∀ (n a : Nat) (l : List α) (a' : Nat), rdMany p n a = some (l, a') → rdMany p (n + 1) a = (p a').map fun x => (l ++ [x.1], x.2)
  | 0, a, l, a', h => by
    simp only [rdMany, Option.some.injEq, Prod.mk.injEq] at h
    obtain ⟨rfl, rfl⟩ := h
    simp only [rdMany]
    cases p a <;> rfl
  | n + 1, a, l, a', h => by
    rw [rdMany] at h ⊢
    cases h1 : p a with
    | none => rw [h1] at h; cases h
    | some x =>
      rw [h1] at h
      simp only [Option.bind_some] at h ⊢
      cases h2 : rdMany p n x.2 with
      | none => rw [h2] at h; cases h
      | some y =>
        rw [h2] at h
        simp only [Option.map_some, Option.some.injEq, Prod.mk.injEq] at h
        obtain ⟨rfl, rfl⟩ := h
        rw [rdMany_snoc p n x.2 y.1 y.2 h2]
        cases p y.2 <;> rfl
theorem rdMany_none {α : Type} (p : Nat → Option (α × Nat)) : ∀ (n a : Nat) (l : List α) (a' k : Nat), rdMany p n a = some (l, a') → p a' = none → n < k → rdMany p k a = none
  | 0, a, l, a', k + 1, h, h1, _ => by
    simp only [rdMany, Option.some.injEq, Prod.mk.injEq] at h
    obtain ⟨rfl, rfl⟩ := h
    simp only [rdMany, h1]; rfl
  | n + 1, a, l, a', k + 1, h, h1, hk => by
    rw [rdMany] at h ⊢
    cases h2 : p a with
    | none => rfl
    | some x =>
      rw [h2] at h
      simp only [Option.bind_some] at h ⊢
      cases h3 : rdMany p n x.2 with
      | none => rw [h3] at h; cases h
      | some y =>
        rw [h3] at h
        simp only [Option.map_some, Option.some.injEq, Prod.mk.injEq] at h
        obtain ⟨rfl, rfl⟩ := h
        rw [rdMany_none p n x.2 y.1 y.2 k h3 h1 (by omega)]; rfl
  | _, _, _, _, 0, _, _, h => by omega






theorem many_domain (F : Frm) (r t : Nat) (s : List UInt8) (a : Nat) (sh : Bool) (ht : F.has (pt t (cl [.pointer (some ⟨r, 0, none⟩)] 86))) (hs : s.length ≤ 1000000) (ha : a ≤ s.length) :
    FnOk Tryz.prog 29 [.pointer (some ⟨r, 0, none⟩), .func (.func 30) #[] #[.pointer (some ⟨t, 0, none⟩)]] [rdA r s a sh] F
      (fun v H => ∃ p c l a' sh', v = .slice p l.length c ∧ H = [rdA r s a' sh', sA 96 2 Units.cells p c l] ∧ RdR s (rdList s (rdUnits 1 2 s)) a sh l a' sh' ∧ l.length ≤ 255) := by
  obtain ⟨n, a1, sh1, hg, hr, hn⟩ := getS_one s a sh ha
  have hr1 := hr.1
  refine Sl.FnOk.of (κ := [(0, _), (1, _)]) Go.Proofs.Tryz.func29 rfl rfl Go.Proofs.Tryz.ntmps29 rfl rfl ?_
  refine Sl.Tr.seq ?_
  refine Sl.Tr.region ?_
  refine Sl.G.ro (Sl.RO.rd (Sl.RO.assign rfl)) rfl ?_
  refine Sl.G.nil ?_
  refine Sl.Post.thenN ?_
  refine Sl.Tr.seq ?_
  refine Sl.Tr.region ?_
  refine Sl.G.alloc zv_3 rfl (fun b0 => ?_)
  refine Sl.G.store rfl rfl rfl rfl ly_3 rfl .h rfl ?_
  refine Sl.G.nil ?_
  refine Sl.Post.thenN ?_
  refine Sl.Tr.seq ?_
  refine Sl.Tr.region ?_
  refine Sl.G.ro (Sl.RO.rd (Sl.RO.move rfl)) rfl ?_
  refine Sl.G.ro (Sl.RO.rd (Sl.RO.build pl_112 zv_112 rfl rfl)) rfl ?_
  refine Sl.G.buildSlice ap_99 rfl rfl rfl rfl rfl (fun b1 => ?_)
  refine Sl.G.mem (fun hs => Sl.Sat.ptsA (l := [(0, 1)]) (fldC.el b0) (rfl) .h hs) ?_
  refine Sl.G.call rfl rfl .n (.c (.c .n)) (.p (.t (.t .h)) (.p (.t .h) .n)) (fun G' hle hhas => reader_get (fs := [(0, 1)]) (hv := hhas _ (Sl.memAt 0 rfl)) (hs := (by assumption)) (ha := (by assumption)) (hz := (by simp)) (hd := (by decide)) (hn := (by decide)) (hfl := (by decide)) (hfl2 := (by decide)) ..) rfl (fun v K hR => ?_)
  obtain ⟨rfl, rfl⟩ := hR
  refine Sl.G.app (.c (.c .n)) ?_
  refine Sl.G.nil ?_
  refine Sl.Post.thenN ?_
  refine Sl.Tr.seq ?_
  refine Sl.Tr.region ?_
  refine Sl.G.ro (Sl.RO.rd (Sl.RO.assign rfl)) rfl ?_
  refine Sl.G.nil ?_
  refine Sl.Post.thenN ?_
  refine Sl.Tr.seq ?_
  refine Sl.Tr.seq ?_
  refine Sl.Tr.region ?_
  refine Sl.G.ro (Sl.RO.rd (Sl.RO.assign rfl)) rfl ?_
  refine Sl.G.nil ?_
  refine Sl.Post.thenN ?_
  refine Sl.Tr.block ?_
  simp only [hg]
  skip
  refine Sl.Tr.nilS 96 2 Units.cells ?_
  refine Sl.Tr.loop (α := Nat × List Units × Option Addr × Nat × Nat × Bool) (fun g => [(7, .int .i64 (g.1 : Nat)), (6, .slice g.2.2.1 g.2.1.length g.2.2.2.1)]) [(12, _), (11, _), (10, _), (9, _), (5, _), (4, _), (0, _), (1, _)] (fun g => [rdA r s g.2.2.2.2.1 g.2.2.2.2.2, sA 96 2 Units.cells g.2.2.1 g.2.2.2.1 g.2.1]) [_, _] (fun g => g.1 ≤ n ∧ g.2.1.length = g.1 ∧ g.2.2.2.2.1 ≤ s.length ∧ (sh1 = true → g.2.2.2.2.2 = true) ∧ (sh1 = false → if g.2.2.2.2.2 = false then rdMany (rdUnits 1 2 s) g.1 a1 = some (g.2.1, g.2.2.2.2.1) else rdMany (rdUnits 1 2 s) n a1 = none)) (fun g => n - g.1) ((0, [], none, 0, a1, sh1)) ?_ ⟨rfl, rfl, trivial⟩ ⟨rfl, rfl, rfl, rfl, rfl, rfl, rfl, rfl, trivial⟩ (.p (.t .h) (.p .h (.p .h (.p .h .o)))) ?_
  · exact ⟨Nat.zero_le _, rfl, hr1, id, fun h => by rw [h]; rfl⟩
  rintro ⟨k, l, p, c, a', sh'⟩ ⟨hk, hl, ha', h1, h2⟩
  dsimp only [List.cons_append, List.nil_append]
  (try dsimp only at *)
  cases sh'
  · rcases Nat.lt_or_ge k n with hkn | hkn
    · refine Sl.Tr.seq ?_
      refine Sl.Tr.seq ?_
      refine Sl.Tr.region ?_
      refine Sl.G.ro (Sl.RO.rd (Sl.RO.move rfl)) rfl ?_
      refine Sl.G.ro (Sl.RD.load1 rfl (.t (.t .h)) ly_3 rfl) rfl ?_
      refine Sl.G.ro (Sl.RO.rd (Sl.RO.bT (Sl.RO.lss rfl rfl) (by omega))) rfl ?_
      refine Sl.G.ro (Sl.RO.rd (Sl.RO.move rfl)) rfl ?_
      refine Sl.G.un rfl ?_
      refine Sl.G.ro (Sl.RO.rd (Sl.RO.move rfl)) rfl ?_
      refine Sl.G.un rfl ?_
      refine Sl.G.ro (Sl.RO.rd (Sl.RO.nilCheck rfl)) rfl ?_
      refine Sl.G.un rfl ?_
      refine Sl.G.ro (Sl.RO.rd (Sl.RO.fieldAddr rfl fo_88_2)) rfl ?_
      refine Sl.G.un rfl ?_
      refine Sl.G.ro (Sl.RD.load1 rfl .h ly_4 rfl) rfl ?_
      refine Sl.G.un rfl ?_
      refine Sl.G.ro (Sl.RO.rd (Sl.RO.notL (c := true) rfl rfl)) rfl ?_
      refine Sl.G.ro (Sl.RO.rd (Sl.RO.pickT rfl rfl)) rfl ?_
      refine Sl.G.nil ?_
      refine Sl.Post.thenN ?_
      refine Sl.Tr.condT rfl ?_
      refine Sl.Tr.skip ?_
      refine Sl.Post.thenN ?_
      refine Sl.Tr.seq ?_
      refine Sl.Tr.block ?_
      refine Sl.Tr.seq ?_
      refine Sl.Tr.region ?_
      refine Sl.G.alloc zv_96 rfl (fun b2 => ?_)
      refine Sl.G.nil ?_
      refine Sl.Post.thenN ?_
      refine Sl.Tr.seq ?_
      refine Sl.Tr.region ?_
      refine Sl.G.ro (Sl.RO.rd (Sl.RO.move rfl)) rfl ?_
      refine Sl.G.call rfl rfl .n (.c .n) (.p (.t .h) (.p .h .n)) (fun G' hle hhas => Go.Proofs.YtcaojfapibkplaaGreatDoor.cfg_11 (ht := Sl.Frm.has_mono ht hle) (hs := (by assumption)) (ha := (by assumption)) ..) rfl (fun v K hR => ?_)
      obtain ⟨u3, ⟨a4, ⟨sh5, ⟨rfl, ⟨rfl, hq6⟩⟩⟩⟩⟩ := hR
      refine Sl.G.app (.c (.c .n)) ?_
      refine Sl.G.nil ?_
      refine Sl.Post.thenN ?_
      refine Sl.Tr.region ?_
      refine Sl.G.ro (Sl.RO.rd (Sl.RO.move rfl)) rfl ?_
      refine Sl.G.ro (Sl.RD.load rfl (.t .h) ly_96 rfl) rfl ?_
      refine Sl.G.buildSlice ap_90 rfl rfl rfl rfl rfl (fun b7 => ?_)
      refine Sl.G.append1 (u3) Go.En.Units.el rfl rfl ap_90 rfl (.t (.t (.t .h))) (by omega) .h rfl rfl (fun p8 c9 => ?_)
      refine Sl.G.ro (Sl.RO.rd (Sl.RO.assign rfl)) rfl ?_
      refine Sl.G.nil ?_
      refine Sl.Post.blockN ?_
      refine Sl.Post.thenN ?_
      refine Sl.Tr.region ?_
      refine Sl.G.ro (Sl.RO.rd (Sl.RO.move rfl)) rfl ?_
      refine Sl.G.ro (Sl.RO.rd (Sl.RO.addI rfl rfl (by omega))) rfl ?_
      refine Sl.G.ro (Sl.RO.rd (Sl.RO.assign rfl)) rfl ?_
      refine Sl.G.nil ?_
      refine Sl.Post.again ((k + 1, l ++ [u3], p8, c9, a4, sh5)) ?_ ?_ ?_ ?_ ?_
      rotate_left
      · omega
      · exact ⟨rfl, rfl, trivial⟩
      · exact ⟨rfl, rfl, rfl, rfl, rfl, rfl, rfl, rfl, trivial⟩
      · exact (.p (.t .h) (.p .h (.p (.t .h) (.p (.t .h) .o))))
      obtain ⟨q1, q2, q3⟩ := hq6
      refine ⟨by omega, by simp [hl], q1, fun h => (by cases h1 h), fun h => ?_⟩
      have h3 := h2 h
      rw [if_pos rfl] at h3
      have h4 := q3 rfl
      cases hp : (rdUnits 1 2 s) a' with
      | none =>
        rw [hp] at h4
        subst h4
        rw [if_neg (by simp)]
        exact rdMany_none _ k a1 l a' n h3 hp hkn
      | some x =>
        rw [hp] at h4
        obtain ⟨rfl, rfl, rfl⟩ := h4
        rw [if_pos rfl, rdMany_snoc _ k a1 l a' h3, hp]; rfl
    · obtain rfl : k = n := by omega
      refine Sl.Tr.seq ?_
      refine Sl.Tr.seq ?_
      refine Sl.Tr.region ?_
      refine Sl.G.ro (Sl.RO.rd (Sl.RO.move rfl)) rfl ?_
      refine Sl.G.ro (Sl.RD.load1 rfl (.t (.t .h)) ly_3 rfl) rfl ?_
      refine Sl.G.ro (Sl.RO.rd (Sl.RO.bF (Sl.RO.lss rfl rfl) (by omega))) rfl ?_
      refine Sl.G.ro (Sl.RO.rd (Sl.RO.move rfl)) rfl ?_
      refine Sl.G.pass rfl rfl ?_
      refine Sl.G.pass rfl rfl ?_
      refine Sl.G.pass rfl rfl ?_
      refine Sl.G.pass rfl rfl ?_
      refine Sl.G.pass rfl rfl ?_
      refine Sl.G.ro (Sl.RO.rd (Sl.RO.pickF rfl rfl)) rfl ?_
      refine Sl.G.nil ?_
      refine Sl.Post.thenN ?_
      refine Sl.Tr.condF rfl ?_
      refine Sl.Tr.exit ?_
      refine Sl.Post.thenE ?_
      refine Sl.Post.thenE ?_
      refine Sl.Post.blockE ?_
      refine Sl.Post.thenN ?_
      refine Sl.Tr.seq ?_
      refine Sl.Tr.region ?_
      refine Sl.G.ro (Sl.RO.rd (Sl.RO.move rfl)) rfl ?_
      refine Sl.G.ro (Sl.RO.rd (Sl.RO.assign rfl)) rfl ?_
      refine Sl.G.nil ?_
      refine Sl.Post.thenN ?_
      refine Sl.Tr.ret ?_
      refine Sl.Post.fin rfl (.tmp rfl .nil) rfl (.p .h (.p .h .n)) ?_ (.inl rfl)
      refine ⟨p, c, l, a', false, rfl, rfl, ⟨ha', fun h => ?_, fun h => ?_⟩, by omega⟩
      · rw [hr.2.1 h] at h1; exact h1 rfl
      · have h3 := hr.2.2 h
        cases hp : rdN s 1 a with
        | none => rw [hp] at h3; simp only at h3; rw [h3] at h1; cases h1 rfl
        | some x =>
          rw [hp] at h3
          simp only at h3
          obtain ⟨e1, e2, e3⟩ := h3
          have h4 := h2 e1
          rw [if_pos rfl] at h4
          simp only [rdList, hp, Option.bind_some]
          rw [← e2, ← e3, h4]
          exact ⟨trivial, rfl, rfl⟩
  · have hfin : RdR s (rdList s (rdUnits 1 2 s)) a sh l a' true := by
      refine ⟨ha', fun _ => rfl, fun h => ?_⟩
      have h3 := hr.2.2 h
      cases hp : rdN s 1 a with
      | none => simp [rdList, hp]
      | some x =>
        rw [hp] at h3
        simp only at h3
        obtain ⟨e1, e2, e3⟩ := h3
        have h4 := h2 e1
        rw [if_neg (by decide)] at h4
        simp only [rdList, hp, Option.bind_some]
        rw [← e2, ← e3, h4]
        trivial
    refine Sl.Tr.seq ?_
    refine Sl.Tr.seq ?_
    refine Sl.Tr.region ?_
    refine Sl.G.ro (Sl.RO.rd (Sl.RO.move rfl)) rfl ?_
    refine Sl.G.ro (Sl.RD.load1 rfl (.t (.t .h)) ly_3 rfl) rfl ?_
    refine Sl.G.cmp (Sl.RO.lss rfl rfl) rfl (fun hc10 => ?_) (fun hc10 => ?_)
    refine Sl.G.ro (Sl.RO.rd (Sl.RO.move rfl)) rfl ?_
    refine Sl.G.un rfl ?_
    refine Sl.G.ro (Sl.RO.rd (Sl.RO.move rfl)) rfl ?_
    refine Sl.G.un rfl ?_
    refine Sl.G.ro (Sl.RO.rd (Sl.RO.nilCheck rfl)) rfl ?_
    refine Sl.G.un rfl ?_
    refine Sl.G.ro (Sl.RO.rd (Sl.RO.fieldAddr rfl fo_88_2)) rfl ?_
    refine Sl.G.un rfl ?_
    refine Sl.G.ro (Sl.RD.load1 rfl .h ly_4 rfl) rfl ?_
    refine Sl.G.un rfl ?_
    refine Sl.G.ro (Sl.RO.rd (Sl.RO.notL (c := false) rfl rfl)) rfl ?_
    refine Sl.G.ro (Sl.RO.rd (Sl.RO.pickT rfl rfl)) rfl ?_
    refine Sl.G.nil ?_
    refine Sl.Post.thenN ?_
    refine Sl.Tr.condF rfl ?_
    refine Sl.Tr.exit ?_
    refine Sl.Post.thenE ?_
    refine Sl.Post.thenE ?_
    refine Sl.Post.blockE ?_
    refine Sl.Post.thenN ?_
    refine Sl.Tr.seq ?_
    refine Sl.Tr.region ?_
    refine Sl.G.ro (Sl.RO.rd (Sl.RO.move rfl)) rfl ?_
    refine Sl.G.ro (Sl.RO.rd (Sl.RO.assign rfl)) rfl ?_
    refine Sl.G.nil ?_
    refine Sl.Post.thenN ?_
    refine Sl.Tr.ret ?_
    rotate_left
    refine Sl.G.ro (Sl.RO.rd (Sl.RO.move rfl)) rfl ?_
    refine Sl.G.pass rfl rfl ?_
    refine Sl.G.pass rfl rfl ?_
    refine Sl.G.pass rfl rfl ?_
    refine Sl.G.pass rfl rfl ?_
    refine Sl.G.pass rfl rfl ?_
    refine Sl.G.ro (Sl.RO.rd (Sl.RO.pickF rfl rfl)) rfl ?_
    refine Sl.G.nil ?_
    refine Sl.Post.thenN ?_
    refine Sl.Tr.condF rfl ?_
    refine Sl.Tr.exit ?_
    refine Sl.Post.thenE ?_
    refine Sl.Post.thenE ?_
    refine Sl.Post.blockE ?_
    refine Sl.Post.thenN ?_
    refine Sl.Tr.seq ?_
    refine Sl.Tr.region ?_
    refine Sl.G.ro (Sl.RO.rd (Sl.RO.move rfl)) rfl ?_
    refine Sl.G.ro (Sl.RO.rd (Sl.RO.assign rfl)) rfl ?_
    refine Sl.G.nil ?_
    refine Sl.Post.thenN ?_
    refine Sl.Tr.ret ?_
    rotate_left
    all_goals refine Sl.Post.fin rfl (.tmp rfl .nil) rfl (.p .h (.p .h .n)) ?_ (.inl rfl)
    all_goals exact ⟨p, c, l, a', true, rfl, rfl, hfin, by omega⟩


theorem many_queue (F : Frm) (r t : Nat) (s : List UInt8) (a : Nat) (sh : Bool) (ht : F.has (pt t (cl [.pointer (some ⟨r, 0, none⟩)] 86))) (hs : s.length ≤ 1000000) (ha : a ≤ s.length) :
    FnOk Tryz.prog 33 [.pointer (some ⟨r, 0, none⟩), .func (.func 34) #[] #[.pointer (some ⟨t, 0, none⟩)]] [rdA r s a sh] F
      (fun v H => ∃ p c l a' sh', v = .slice p l.length c ∧ H = [rdA r s a' sh', sA 106 3 QueueV.cells p c l] ∧ RdR s (rdList s (rdQueue s)) a sh l a' sh' ∧ l.length ≤ 255) := by
  obtain ⟨n, a1, sh1, hg, hr, hn⟩ := getS_one s a sh ha
  have hr1 := hr.1
  refine Sl.FnOk.of (κ := [(0, _), (1, _)]) Go.Proofs.Tryz.func33 rfl rfl Go.Proofs.Tryz.ntmps33 rfl rfl ?_
  refine Sl.Tr.seq ?_
  refine Sl.Tr.region ?_
  refine Sl.G.ro (Sl.RO.rd (Sl.RO.assign rfl)) rfl ?_
  refine Sl.G.nil ?_
  refine Sl.Post.thenN ?_
  refine Sl.Tr.seq ?_
  refine Sl.Tr.region ?_
  refine Sl.G.alloc zv_3 rfl (fun b0 => ?_)
  refine Sl.G.store rfl rfl rfl rfl ly_3 rfl .h rfl ?_
  refine Sl.G.nil ?_
  refine Sl.Post.thenN ?_
  refine Sl.Tr.seq ?_
  refine Sl.Tr.region ?_
  refine Sl.G.ro (Sl.RO.rd (Sl.RO.move rfl)) rfl ?_
  refine Sl.G.ro (Sl.RO.rd (Sl.RO.build pl_112 zv_112 rfl rfl)) rfl ?_
  refine Sl.G.buildSlice ap_99 rfl rfl rfl rfl rfl (fun b1 => ?_)
  refine Sl.G.mem (fun hs => Sl.Sat.ptsA (l := [(0, 1)]) (fldC.el b0) (rfl) .h hs) ?_
  refine Sl.G.call rfl rfl .n (.c (.c .n)) (.p (.t (.t .h)) (.p (.t .h) .n)) (fun G' hle hhas => reader_get (fs := [(0, 1)]) (hv := hhas _ (Sl.memAt 0 rfl)) (hs := (by assumption)) (ha := (by assumption)) (hz := (by simp)) (hd := (by decide)) (hn := (by decide)) (hfl := (by decide)) (hfl2 := (by decide)) ..) rfl (fun v K hR => ?_)
  obtain ⟨rfl, rfl⟩ := hR
  refine Sl.G.app (.c (.c .n)) ?_
  refine Sl.G.nil ?_
  refine Sl.Post.thenN ?_
  refine Sl.Tr.seq ?_
  refine Sl.Tr.region ?_
  refine Sl.G.ro (Sl.RO.rd (Sl.RO.assign rfl)) rfl ?_
  refine Sl.G.nil ?_
  refine Sl.Post.thenN ?_
  refine Sl.Tr.seq ?_
  refine Sl.Tr.seq ?_
  refine Sl.Tr.region ?_
  refine Sl.G.ro (Sl.RO.rd (Sl.RO.assign rfl)) rfl ?_
  refine Sl.G.nil ?_
  refine Sl.Post.thenN ?_
  refine Sl.Tr.block ?_
  simp only [hg]
  skip
  refine Sl.Tr.nilS 106 3 QueueV.cells ?_
  refine Sl.Tr.loop (α := Nat × List QueueV × Option Addr × Nat × Nat × Bool) (fun g => [(7, .int .i64 (g.1 : Nat)), (6, .slice g.2.2.1 g.2.1.length g.2.2.2.1)]) [(12, _), (11, _), (10, _), (9, _), (5, _), (4, _), (0, _), (1, _)] (fun g => [rdA r s g.2.2.2.2.1 g.2.2.2.2.2, sA 106 3 QueueV.cells g.2.2.1 g.2.2.2.1 g.2.1]) [_, _] (fun g => g.1 ≤ n ∧ g.2.1.length = g.1 ∧ g.2.2.2.2.1 ≤ s.length ∧ (sh1 = true → g.2.2.2.2.2 = true) ∧ (sh1 = false → if g.2.2.2.2.2 = false then rdMany (rdQueue s) g.1 a1 = some (g.2.1, g.2.2.2.2.1) else rdMany (rdQueue s) n a1 = none)) (fun g => n - g.1) ((0, [], none, 0, a1, sh1)) ?_ ⟨rfl, rfl, trivial⟩ ⟨rfl, rfl, rfl, rfl, rfl, rfl, rfl, rfl, trivial⟩ (.p (.t .h) (.p .h (.p .h (.p .h .o)))) ?_
  · exact ⟨Nat.zero_le _, rfl, hr1, id, fun h => by rw [h]; rfl⟩
  rintro ⟨k, l, p, c, a', sh'⟩ ⟨hk, hl, ha', h1, h2⟩
  dsimp only [List.cons_append, List.nil_append]
  (try dsimp only at *)
  cases sh'
  · rcases Nat.lt_or_ge k n with hkn | hkn
    · refine Sl.Tr.seq ?_
      refine Sl.Tr.seq ?_
      refine Sl.Tr.region ?_
      refine Sl.G.ro (Sl.RO.rd (Sl.RO.move rfl)) rfl ?_
      refine Sl.G.ro (Sl.RD.load1 rfl (.t (.t .h)) ly_3 rfl) rfl ?_
      refine Sl.G.ro (Sl.RO.rd (Sl.RO.bT (Sl.RO.lss rfl rfl) (by omega))) rfl ?_
      refine Sl.G.ro (Sl.RO.rd (Sl.RO.move rfl)) rfl ?_
      refine Sl.G.un rfl ?_
      refine Sl.G.ro (Sl.RO.rd (Sl.RO.move rfl)) rfl ?_
      refine Sl.G.un rfl ?_
      refine Sl.G.ro (Sl.RO.rd (Sl.RO.nilCheck rfl)) rfl ?_
      refine Sl.G.un rfl ?_
      refine Sl.G.ro (Sl.RO.rd (Sl.RO.fieldAddr rfl fo_88_2)) rfl ?_
      refine Sl.G.un rfl ?_
      refine Sl.G.ro (Sl.RD.load1 rfl .h ly_4 rfl) rfl ?_
      refine Sl.G.un rfl ?_
      refine Sl.G.ro (Sl.RO.rd (Sl.RO.notL (c := true) rfl rfl)) rfl ?_
      refine Sl.G.ro (Sl.RO.rd (Sl.RO.pickT rfl rfl)) rfl ?_
      refine Sl.G.nil ?_
      refine Sl.Post.thenN ?_
      refine Sl.Tr.condT rfl ?_
      refine Sl.Tr.skip ?_
      refine Sl.Post.thenN ?_
      refine Sl.Tr.seq ?_
      refine Sl.Tr.block ?_
      refine Sl.Tr.seq ?_
      refine Sl.Tr.region ?_
      refine Sl.G.alloc zv_106 rfl (fun b2 => ?_)
      refine Sl.G.nil ?_
      refine Sl.Post.thenN ?_
      refine Sl.Tr.seq ?_
      refine Sl.Tr.region ?_
      refine Sl.G.ro (Sl.RO.rd (Sl.RO.move rfl)) rfl ?_
      refine Sl.G.call rfl rfl .n (.c .n) (.p (.t .h) (.p .h .n)) (fun G' hle hhas => Go.Proofs.YtcaojfapibkplaaGreatDoor.cfg_2 (ht := Sl.Frm.has_mono ht hle) (hs := (by assumption)) (ha := (by assumption)) ..) rfl (fun v K hR => ?_)
      obtain ⟨u3, ⟨a4, ⟨sh5, ⟨rfl, ⟨rfl, hq6⟩⟩⟩⟩⟩ := hR
      refine Sl.G.app (.c (.c .n)) ?_
      refine Sl.G.nil ?_
      refine Sl.Post.thenN ?_
      refine Sl.Tr.region ?_
      refine Sl.G.ro (Sl.RO.rd (Sl.RO.move rfl)) rfl ?_
      refine Sl.G.ro (Sl.RD.load rfl (.t .h) ly_106 rfl) rfl ?_
      refine Sl.G.buildSlice ap_63 rfl rfl rfl rfl rfl (fun b7 => ?_)
      refine Sl.G.append1 (u3) Go.Proofs.YtcaojfapibkplaaGreatDoor.QueueV.el rfl rfl ap_63 rfl (.t (.t (.t .h))) (by omega) .h rfl rfl (fun p8 c9 => ?_)
      refine Sl.G.ro (Sl.RO.rd (Sl.RO.assign rfl)) rfl ?_
      refine Sl.G.nil ?_
      refine Sl.Post.blockN ?_
      refine Sl.Post.thenN ?_
      refine Sl.Tr.region ?_
      refine Sl.G.ro (Sl.RO.rd (Sl.RO.move rfl)) rfl ?_
      refine Sl.G.ro (Sl.RO.rd (Sl.RO.addI rfl rfl (by omega))) rfl ?_
      refine Sl.G.ro (Sl.RO.rd (Sl.RO.assign rfl)) rfl ?_
      refine Sl.G.nil ?_
      refine Sl.Post.again ((k + 1, l ++ [u3], p8, c9, a4, sh5)) ?_ ?_ ?_ ?_ ?_
      rotate_left
      · omega
      · exact ⟨rfl, rfl, trivial⟩
      · exact ⟨rfl, rfl, rfl, rfl, rfl, rfl, rfl, rfl, trivial⟩
      · exact (.p (.t .h) (.p .h (.p (.t .h) (.p (.t .h) .o))))
      obtain ⟨q1, q2, q3⟩ := hq6
      refine ⟨by omega, by simp [hl], q1, fun h => (by cases h1 h), fun h => ?_⟩
      have h3 := h2 h
      rw [if_pos rfl] at h3
      have h4 := q3 rfl
      cases hp : (rdQueue s) a' with
      | none =>
        rw [hp] at h4
        subst h4
        rw [if_neg (by simp)]
        exact rdMany_none _ k a1 l a' n h3 hp hkn
      | some x =>
        rw [hp] at h4
        obtain ⟨rfl, rfl, rfl⟩ := h4
        rw [if_pos rfl, rdMany_snoc _ k a1 l a' h3, hp]; rfl
    · obtain rfl : k = n := by omega
      refine Sl.Tr.seq ?_
      refine Sl.Tr.seq ?_
      refine Sl.Tr.region ?_
      refine Sl.G.ro (Sl.RO.rd (Sl.RO.move rfl)) rfl ?_
      refine Sl.G.ro (Sl.RD.load1 rfl (.t (.t .h)) ly_3 rfl) rfl ?_
      refine Sl.G.ro (Sl.RO.rd (Sl.RO.bF (Sl.RO.lss rfl rfl) (by omega))) rfl ?_
      refine Sl.G.ro (Sl.RO.rd (Sl.RO.move rfl)) rfl ?_
      refine Sl.G.pass rfl rfl ?_
      refine Sl.G.pass rfl rfl ?_
      refine Sl.G.pass rfl rfl ?_
      refine Sl.G.pass rfl rfl ?_
      refine Sl.G.pass rfl rfl ?_
      refine Sl.G.ro (Sl.RO.rd (Sl.RO.pickF rfl rfl)) rfl ?_
      refine Sl.G.nil ?_
      refine Sl.Post.thenN ?_
      refine Sl.Tr.condF rfl ?_
      refine Sl.Tr.exit ?_
      refine Sl.Post.thenE ?_
      refine Sl.Post.thenE ?_
      refine Sl.Post.blockE ?_
      refine Sl.Post.thenN ?_
      refine Sl.Tr.seq ?_
      refine Sl.Tr.region ?_
      refine Sl.G.ro (Sl.RO.rd (Sl.RO.move rfl)) rfl ?_
      refine Sl.G.ro (Sl.RO.rd (Sl.RO.assign rfl)) rfl ?_
      refine Sl.G.nil ?_
      refine Sl.Post.thenN ?_
      refine Sl.Tr.ret ?_
      refine Sl.Post.fin rfl (.tmp rfl .nil) rfl (.p .h (.p .h .n)) ?_ (.inl rfl)
      refine ⟨p, c, l, a', false, rfl, rfl, ⟨ha', fun h => ?_, fun h => ?_⟩, by omega⟩
      · rw [hr.2.1 h] at h1; exact h1 rfl
      · have h3 := hr.2.2 h
        cases hp : rdN s 1 a with
        | none => rw [hp] at h3; simp only at h3; rw [h3] at h1; cases h1 rfl
        | some x =>
          rw [hp] at h3
          simp only at h3
          obtain ⟨e1, e2, e3⟩ := h3
          have h4 := h2 e1
          rw [if_pos rfl] at h4
          simp only [rdList, hp, Option.bind_some]
          rw [← e2, ← e3, h4]
          exact ⟨trivial, rfl, rfl⟩
  · have hfin : RdR s (rdList s (rdQueue s)) a sh l a' true := by
      refine ⟨ha', fun _ => rfl, fun h => ?_⟩
      have h3 := hr.2.2 h
      cases hp : rdN s 1 a with
      | none => simp [rdList, hp]
      | some x =>
        rw [hp] at h3
        simp only at h3
        obtain ⟨e1, e2, e3⟩ := h3
        have h4 := h2 e1
        rw [if_neg (by decide)] at h4
        simp only [rdList, hp, Option.bind_some]
        rw [← e2, ← e3, h4]
        trivial
    refine Sl.Tr.seq ?_
    refine Sl.Tr.seq ?_
    refine Sl.Tr.region ?_
    refine Sl.G.ro (Sl.RO.rd (Sl.RO.move rfl)) rfl ?_
    refine Sl.G.ro (Sl.RD.load1 rfl (.t (.t .h)) ly_3 rfl) rfl ?_
    refine Sl.G.cmp (Sl.RO.lss rfl rfl) rfl (fun hc10 => ?_) (fun hc10 => ?_)
    refine Sl.G.ro (Sl.RO.rd (Sl.RO.move rfl)) rfl ?_
    refine Sl.G.un rfl ?_
    refine Sl.G.ro (Sl.RO.rd (Sl.RO.move rfl)) rfl ?_
    refine Sl.G.un rfl ?_
    refine Sl.G.ro (Sl.RO.rd (Sl.RO.nilCheck rfl)) rfl ?_
    refine Sl.G.un rfl ?_
    refine Sl.G.ro (Sl.RO.rd (Sl.RO.fieldAddr rfl fo_88_2)) rfl ?_
    refine Sl.G.un rfl ?_
    refine Sl.G.ro (Sl.RD.load1 rfl .h ly_4 rfl) rfl ?_
    refine Sl.G.un rfl ?_
    refine Sl.G.ro (Sl.RO.rd (Sl.RO.notL (c := false) rfl rfl)) rfl ?_
    refine Sl.G.ro (Sl.RO.rd (Sl.RO.pickT rfl rfl)) rfl ?_
    refine Sl.G.nil ?_
    refine Sl.Post.thenN ?_
    refine Sl.Tr.condF rfl ?_
    refine Sl.Tr.exit ?_
    refine Sl.Post.thenE ?_
    refine Sl.Post.thenE ?_
    refine Sl.Post.blockE ?_
    refine Sl.Post.thenN ?_
    refine Sl.Tr.seq ?_
    refine Sl.Tr.region ?_
    refine Sl.G.ro (Sl.RO.rd (Sl.RO.move rfl)) rfl ?_
    refine Sl.G.ro (Sl.RO.rd (Sl.RO.assign rfl)) rfl ?_
    refine Sl.G.nil ?_
    refine Sl.Post.thenN ?_
    refine Sl.Tr.ret ?_
    rotate_left
    refine Sl.G.ro (Sl.RO.rd (Sl.RO.move rfl)) rfl ?_
    refine Sl.G.pass rfl rfl ?_
    refine Sl.G.pass rfl rfl ?_
    refine Sl.G.pass rfl rfl ?_
    refine Sl.G.pass rfl rfl ?_
    refine Sl.G.pass rfl rfl ?_
    refine Sl.G.ro (Sl.RO.rd (Sl.RO.pickF rfl rfl)) rfl ?_
    refine Sl.G.nil ?_
    refine Sl.Post.thenN ?_
    refine Sl.Tr.condF rfl ?_
    refine Sl.Tr.exit ?_
    refine Sl.Post.thenE ?_
    refine Sl.Post.thenE ?_
    refine Sl.Post.blockE ?_
    refine Sl.Post.thenN ?_
    refine Sl.Tr.seq ?_
    refine Sl.Tr.region ?_
    refine Sl.G.ro (Sl.RO.rd (Sl.RO.move rfl)) rfl ?_
    refine Sl.G.ro (Sl.RO.rd (Sl.RO.assign rfl)) rfl ?_
    refine Sl.G.nil ?_
    refine Sl.Post.thenN ?_
    refine Sl.Tr.ret ?_
    rotate_left
    all_goals refine Sl.Post.fin rfl (.tmp rfl .nil) rfl (.p .h (.p .h .n)) ?_ (.inl rfl)
    all_goals exact ⟨p, c, l, a', true, rfl, rfl, hfin, by omega⟩

end Go.Proofs.YtcaojfapibkplaaGreatDoor
namespace Go.Proofs.YtcaojfapibkplaaGreatDoor
open Go Go.Sl Go.En

abbrev NodeV.mem (v : NodeV) : Assn := sA 96 2 Units.cells v.p v.c v.ds
abbrev rdNode (s : List UInt8) : Nat → Option (List Units × Nat) := rdList s (rdUnits 1 2 s)
theorem cfg_1 (F : Frm) (r d t : Nat) (s : List UInt8) (a : Nat) (sh : Bool) (ht : F.has (pt t (cl [.pointer (some ⟨r, 0, none⟩)] 86))) (hs : s.length ≤ 1000000) (ha : a ≤ s.length) :
    FnOk Tryz.prog 28 [.pointer (some ⟨d, 0, none⟩), .pointer (some ⟨t, 0, none⟩)] [rdA r s a sh, pt d (cl [.slice none 0 0] 92)] F
      (fun v H => ∃ (u : NodeV) (a' : Nat) (sh' : Bool), v = .tuple #[] ∧ H = [rdA r s a' sh', pt d (cl (NodeV.cells u) 92), NodeV.mem u] ∧ RdR s (rdNode s) a sh u.ds a' sh' ∧ u.ds.length ≤ 255) := by
  refine Sl.FnOk.of (κ := [(0, _), (1, _)]) Go.Proofs.Tryz.func28 rfl rfl Go.Proofs.Tryz.ntmps28 rfl rfl ?_
  refine Sl.Tr.region ?_
  refine Sl.G.ro (Sl.RO.rd (Sl.RO.move rfl)) rfl ?_
  refine Sl.G.ro (Sl.RO.rd (Sl.RO.load1 rfl ht ly_86 rfl)) rfl ?_
  refine Sl.G.ro (Sl.RO.rd (Sl.RO.makeFunc rfl rfl)) rfl ?_
  refine Sl.G.call rfl rfl .n (.c (.c .n)) (.p .h .n) (fun G' hle hhas => Go.Proofs.YtcaojfapibkplaaGreatDoor.many_domain (ht := Sl.Frm.has_mono ht hle) (hs := (by assumption)) (ha := (by assumption)) ..) rfl (fun v K hR => ?_)
  obtain ⟨p0, ⟨c1, ⟨l2, ⟨a3, ⟨sh4, ⟨rfl, ⟨rfl, ⟨hq5, hq6⟩⟩⟩⟩⟩⟩⟩⟩ := hR
  refine Sl.G.app (.c (.c .n)) ?_
  refine Sl.G.ro (Sl.RO.rd (Sl.RO.nilCheck rfl)) rfl ?_
  refine Sl.G.ro (Sl.RO.rd (Sl.RO.fieldAddr rfl fo_92_0)) rfl ?_
  refine Sl.G.store rfl rfl rfl rfl ly_90 rfl (.t (.t .h)) rfl ?_
  refine Sl.G.nil ?_
  refine Sl.Post.fin rfl .nil rfl (.p .h (.p (.t .h) (.p .h .n))) ?_ (.inr rfl)
  exact ⟨⟨p0, c1, l2⟩, a3, sh4, rfl, rfl, hq5, hq6⟩

theorem many_node (F : Frm) (r t : Nat) (s : List UInt8) (a : Nat) (sh : Bool) (ht : F.has (pt t (cl [.pointer (some ⟨r, 0, none⟩)] 86))) (hs : s.length ≤ 1000000) (ha : a ≤ s.length) :
    FnOk Tryz.prog 27 [.pointer (some ⟨r, 0, none⟩), .func (.func 28) #[] #[.pointer (some ⟨t, 0, none⟩)]] [rdA r s a sh] F
      (fun v H => ∃ (p : Option Addr) (c : Nat) (l : List NodeV) (a' : Nat) (sh' : Bool), v = .slice p l.length c ∧ H = [rdA r s a' sh', sA 92 1 NodeV.cells p c l, sep (l.map NodeV.mem)] ∧ RdR s (rdList s (rdNode s)) a sh (l.map (·.ds)) a' sh' ∧ l.length ≤ 255) := by
  obtain ⟨n, a1, sh1, hg, hr, hn⟩ := getS_one s a sh ha
  have hr1 := hr.1
  refine Sl.FnOk.of (κ := [(0, _), (1, _)]) Go.Proofs.Tryz.func27 rfl rfl Go.Proofs.Tryz.ntmps27 rfl rfl ?_
  refine Sl.Tr.seq ?_
  refine Sl.Tr.region ?_
  refine Sl.G.ro (Sl.RO.rd (Sl.RO.assign rfl)) rfl ?_
  refine Sl.G.nil ?_
  refine Sl.Post.thenN ?_
  refine Sl.Tr.seq ?_
  refine Sl.Tr.region ?_
  refine Sl.G.alloc zv_3 rfl (fun b0 => ?_)
  refine Sl.G.store rfl rfl rfl rfl ly_3 rfl .h rfl ?_
  refine Sl.G.nil ?_
  refine Sl.Post.thenN ?_
  refine Sl.Tr.seq ?_
  refine Sl.Tr.region ?_
  refine Sl.G.ro (Sl.RO.rd (Sl.RO.move rfl)) rfl ?_
  refine Sl.G.ro (Sl.RO.rd (Sl.RO.build pl_112 zv_112 rfl rfl)) rfl ?_
  refine Sl.G.buildSlice ap_99 rfl rfl rfl rfl rfl (fun b1 => ?_)
  refine Sl.G.mem (fun hs => Sl.Sat.ptsA (l := [(0, 1)]) (fldC.el b0) (rfl) .h hs) ?_
  refine Sl.G.call rfl rfl .n (.c (.c .n)) (.p (.t (.t .h)) (.p (.t .h) .n)) (fun G' hle hhas => reader_get (fs := [(0, 1)]) (hv := hhas _ (Sl.memAt 0 rfl)) (hs := (by assumption)) (ha := (by assumption)) (hz := (by simp)) (hd := (by decide)) (hn := (by decide)) (hfl := (by decide)) (hfl2 := (by decide)) ..) rfl (fun v K hR => ?_)
  obtain ⟨rfl, rfl⟩ := hR
  refine Sl.G.app (.c (.c .n)) ?_
  refine Sl.G.nil ?_
  refine Sl.Post.thenN ?_
  refine Sl.Tr.seq ?_
  refine Sl.Tr.region ?_
  refine Sl.G.ro (Sl.RO.rd (Sl.RO.assign rfl)) rfl ?_
  refine Sl.G.nil ?_
  refine Sl.Post.thenN ?_
  refine Sl.Tr.seq ?_
  refine Sl.Tr.seq ?_
  refine Sl.Tr.region ?_
  refine Sl.G.ro (Sl.RO.rd (Sl.RO.assign rfl)) rfl ?_
  refine Sl.G.nil ?_
  refine Sl.Post.thenN ?_
  refine Sl.Tr.block ?_
  simp only [hg]
  skip
  refine Sl.Tr.nilS 92 1 NodeV.cells ?_
  refine Tr.mem (fun h => Sat.sep_nil h) ?_
  refine Sl.Tr.loop (α := Nat × List NodeV × Option Addr × Nat × Nat × Bool) (fun g => [(7, .int .i64 (g.1 : Nat)), (6, .slice g.2.2.1 g.2.1.length g.2.2.2.1)]) [(12, _), (11, _), (10, _), (9, _), (5, _), (4, _), (0, _), (1, _)] (fun g => [rdA r s g.2.2.2.2.1 g.2.2.2.2.2, sA 92 1 NodeV.cells g.2.2.1 g.2.2.2.1 g.2.1, sep (g.2.1.map NodeV.mem)]) [_, _] (fun g => g.1 ≤ n ∧ g.2.1.length = g.1 ∧ g.2.2.2.2.1 ≤ s.length ∧ (sh1 = true → g.2.2.2.2.2 = true) ∧ (sh1 = false → if g.2.2.2.2.2 = false then rdMany (rdNode s) g.1 a1 = some (g.2.1.map (·.ds), g.2.2.2.2.1) else rdMany (rdNode s) n a1 = none)) (fun g => n - g.1) ((0, [], none, 0, a1, sh1)) ?_ ⟨rfl, rfl, trivial⟩ ⟨rfl, rfl, rfl, rfl, rfl, rfl, rfl, rfl, trivial⟩ (.p (.t (.t .h)) (.p (.t .h) (.p .h (.p .h (.p .h .o))))) ?_
  · exact ⟨Nat.zero_le _, rfl, hr1, id, fun h => by rw [h]; rfl⟩
  rintro ⟨k, l, p, c, a', sh'⟩ ⟨hk, hl, ha', h1, h2⟩
  dsimp only [List.cons_append, List.nil_append]
  (try dsimp only at *)
  cases sh'
  · rcases Nat.lt_or_ge k n with hkn | hkn
    · refine Sl.Tr.seq ?_
      refine Sl.Tr.seq ?_
      refine Sl.Tr.region ?_
      refine Sl.G.ro (Sl.RO.rd (Sl.RO.move rfl)) rfl ?_
      refine Sl.G.ro (Sl.RD.load1 rfl (.t (.t (.t .h))) ly_3 rfl) rfl ?_
      refine Sl.G.ro (Sl.RO.rd (Sl.RO.bT (Sl.RO.lss rfl rfl) (by omega))) rfl ?_
      refine Sl.G.ro (Sl.RO.rd (Sl.RO.move rfl)) rfl ?_
      refine Sl.G.un rfl ?_
      refine Sl.G.ro (Sl.RO.rd (Sl.RO.move rfl)) rfl ?_
      refine Sl.G.un rfl ?_
      refine Sl.G.ro (Sl.RO.rd (Sl.RO.nilCheck rfl)) rfl ?_
      refine Sl.G.un rfl ?_
      refine Sl.G.ro (Sl.RO.rd (Sl.RO.fieldAddr rfl fo_88_2)) rfl ?_
      refine Sl.G.un rfl ?_
      refine Sl.G.ro (Sl.RD.load1 rfl .h ly_4 rfl) rfl ?_
      refine Sl.G.un rfl ?_
      refine Sl.G.ro (Sl.RO.rd (Sl.RO.notL (c := true) rfl rfl)) rfl ?_
      refine Sl.G.ro (Sl.RO.rd (Sl.RO.pickT rfl rfl)) rfl ?_
      refine Sl.G.nil ?_
      refine Sl.Post.thenN ?_
      refine Sl.Tr.condT rfl ?_
      refine Sl.Tr.skip ?_
      refine Sl.Post.thenN ?_
      refine Sl.Tr.seq ?_
      refine Sl.Tr.block ?_
      refine Sl.Tr.seq ?_
      refine Sl.Tr.region ?_
      refine Sl.G.alloc zv_92 rfl (fun b2 => ?_)
      refine Sl.G.nil ?_
      refine Sl.Post.thenN ?_
      refine Sl.Tr.seq ?_
      refine Sl.Tr.region ?_
      refine Sl.G.ro (Sl.RO.rd (Sl.RO.move rfl)) rfl ?_
      refine Sl.G.call rfl rfl .n (.c .n) (.p (.t .h) (.p .h .n)) (fun G' hle hhas => Go.Proofs.YtcaojfapibkplaaGreatDoor.cfg_1 (ht := Sl.Frm.has_mono ht hle) (hs := (by assumption)) (ha := (by assumption)) ..) rfl (fun v K hR => ?_)
      obtain ⟨u3, ⟨a4, ⟨sh5, ⟨rfl, ⟨rfl, ⟨hq6, hq7⟩⟩⟩⟩⟩⟩ := hR
      refine Sl.G.app (.c (.c (.c .n))) ?_
      refine Sl.G.nil ?_
      refine Sl.Post.thenN ?_
      refine Sl.Tr.region ?_
      refine Sl.G.ro (Sl.RO.rd (Sl.RO.move rfl)) rfl ?_
      refine Sl.G.ro (Sl.RD.load rfl (.t .h) ly_92 rfl) rfl ?_
      refine Sl.G.buildSlice ap_60 rfl rfl rfl rfl rfl (fun b8 => ?_)
      refine Sl.G.append1 (u3) Go.Proofs.YtcaojfapibkplaaGreatDoor.NodeV.el rfl rfl ap_60 rfl (.t (.t (.t (.t .h)))) (by omega) .h rfl rfl (fun p9 c10 => ?_)
      refine Sl.G.ro (Sl.RO.rd (Sl.RO.assign rfl)) rfl ?_
      refine Sl.G.nil ?_
      refine Sl.Post.blockN ?_
      refine Sl.Post.thenN ?_
      refine Sl.Tr.region ?_
      refine Sl.G.ro (Sl.RO.rd (Sl.RO.move rfl)) rfl ?_
      refine Sl.G.ro (Sl.RO.rd (Sl.RO.addI rfl rfl (by omega))) rfl ?_
      refine Sl.G.ro (Sl.RO.rd (Sl.RO.assign rfl)) rfl ?_
      refine Sl.G.nil ?_
      refine Post.mem (fun h => Sat.sepMap (f := NodeV.mem) (a := u3) (l := l) (.t (.t (.t .h))) (.t (.t (.t .h))) h) ?_
      refine Sl.Post.again ((k + 1, l ++ [u3], p9, c10, a4, sh5)) ?_ ?_ ?_ ?_ ?_
      rotate_left
      · omega
      · exact ⟨rfl, rfl, trivial⟩
      · exact ⟨rfl, rfl, rfl, rfl, rfl, rfl, rfl, rfl, trivial⟩
      · exact (.p (.t (.t .h)) (.p (.t .h) (.p .h (.p (.t .h) (.p (.t .h) .o)))))
      obtain ⟨q1, q2, q3⟩ := hq6
      refine ⟨by omega, by simp [hl], q1, fun h => (by cases h1 h), fun h => ?_⟩
      have h3 := h2 h
      rw [if_pos rfl] at h3
      have h4 := q3 rfl
      cases hp : rdNode s a' with
      | none =>
        rw [hp] at h4
        subst h4
        rw [if_neg (by simp)]
        exact rdMany_none _ k a1 _ a' n h3 hp hkn
      | some x =>
        rw [hp] at h4
        obtain ⟨rfl, h5, rfl⟩ := h4
        rw [if_pos rfl, rdMany_snoc _ k a1 _ a' h3, hp, List.map_append, Option.map_some, ← h5]; rfl
    · obtain rfl : k = n := by omega
      refine Sl.Tr.seq ?_
      refine Sl.Tr.seq ?_
      refine Sl.Tr.region ?_
      refine Sl.G.ro (Sl.RO.rd (Sl.RO.move rfl)) rfl ?_
      refine Sl.G.ro (Sl.RD.load1 rfl (.t (.t (.t .h))) ly_3 rfl) rfl ?_
      refine Sl.G.ro (Sl.RO.rd (Sl.RO.bF (Sl.RO.lss rfl rfl) (by omega))) rfl ?_
      refine Sl.G.ro (Sl.RO.rd (Sl.RO.move rfl)) rfl ?_
      refine Sl.G.pass rfl rfl ?_
      refine Sl.G.pass rfl rfl ?_
      refine Sl.G.pass rfl rfl ?_
      refine Sl.G.pass rfl rfl ?_
      refine Sl.G.pass rfl rfl ?_
      refine Sl.G.ro (Sl.RO.rd (Sl.RO.pickF rfl rfl)) rfl ?_
      refine Sl.G.nil ?_
      refine Sl.Post.thenN ?_
      refine Sl.Tr.condF rfl ?_
      refine Sl.Tr.exit ?_
      refine Sl.Post.thenE ?_
      refine Sl.Post.thenE ?_
      refine Sl.Post.blockE ?_
      refine Sl.Post.thenN ?_
      refine Sl.Tr.seq ?_
      refine Sl.Tr.region ?_
      refine Sl.G.ro (Sl.RO.rd (Sl.RO.move rfl)) rfl ?_
      refine Sl.G.ro (Sl.RO.rd (Sl.RO.assign rfl)) rfl ?_
      refine Sl.G.nil ?_
      refine Sl.Post.thenN ?_
      refine Sl.Tr.ret ?_
      refine Sl.Post.fin rfl (.tmp rfl .nil) rfl (.p .h (.p .h (.p .h .n))) ?_ (.inl rfl)
      refine ⟨p, c, l, a', false, rfl, rfl, ⟨ha', fun h => ?_, fun h => ?_⟩, by omega⟩
      · rw [hr.2.1 h] at h1; exact h1 rfl
      · have h3 := hr.2.2 h
        cases hp : rdN s 1 a with
        | none => rw [hp] at h3; simp only at h3; rw [h3] at h1; cases h1 rfl
        | some x =>
          rw [hp] at h3
          simp only at h3
          obtain ⟨e1, e2, e3⟩ := h3
          have h4 := h2 e1
          rw [if_pos rfl] at h4
          simp only [rdList, hp, Option.bind_some]
          rw [← e2, ← e3, h4]
          exact ⟨trivial, rfl, rfl⟩
  · have hfin : RdR s (rdList s (rdNode s)) a sh (l.map (·.ds)) a' true := by
      refine ⟨ha', fun _ => rfl, fun h => ?_⟩
      have h3 := hr.2.2 h
      cases hp : rdN s 1 a with
      | none => simp [rdList, hp]
      | some x =>
        rw [hp] at h3
        simp only at h3
        obtain ⟨e1, e2, e3⟩ := h3
        have h4 := h2 e1
        rw [if_neg (by decide)] at h4
        simp only [rdList, hp, Option.bind_some]
        rw [← e2, ← e3, h4]
        trivial
    refine Sl.Tr.seq ?_
    refine Sl.Tr.seq ?_
    refine Sl.Tr.region ?_
    refine Sl.G.ro (Sl.RO.rd (Sl.RO.move rfl)) rfl ?_
    refine Sl.G.ro (Sl.RD.load1 rfl (.t (.t (.t .h))) ly_3 rfl) rfl ?_
    refine Sl.G.cmp (Sl.RO.lss rfl rfl) rfl (fun hc11 => ?_) (fun hc11 => ?_)
    refine Sl.G.ro (Sl.RO.rd (Sl.RO.move rfl)) rfl ?_
    refine Sl.G.un rfl ?_
    refine Sl.G.ro (Sl.RO.rd (Sl.RO.move rfl)) rfl ?_
    refine Sl.G.un rfl ?_
    refine Sl.G.ro (Sl.RO.rd (Sl.RO.nilCheck rfl)) rfl ?_
    refine Sl.G.un rfl ?_
    refine Sl.G.ro (Sl.RO.rd (Sl.RO.fieldAddr rfl fo_88_2)) rfl ?_
    refine Sl.G.un rfl ?_
    refine Sl.G.ro (Sl.RD.load1 rfl .h ly_4 rfl) rfl ?_
    refine Sl.G.un rfl ?_
    refine Sl.G.ro (Sl.RO.rd (Sl.RO.notL (c := false) rfl rfl)) rfl ?_
    refine Sl.G.ro (Sl.RO.rd (Sl.RO.pickT rfl rfl)) rfl ?_
    refine Sl.G.nil ?_
    refine Sl.Post.thenN ?_
    refine Sl.Tr.condF rfl ?_
    refine Sl.Tr.exit ?_
    refine Sl.Post.thenE ?_
    refine Sl.Post.thenE ?_
    refine Sl.Post.blockE ?_
    refine Sl.Post.thenN ?_
    refine Sl.Tr.seq ?_
    refine Sl.Tr.region ?_
    refine Sl.G.ro (Sl.RO.rd (Sl.RO.move rfl)) rfl ?_
    refine Sl.G.ro (Sl.RO.rd (Sl.RO.assign rfl)) rfl ?_
    refine Sl.G.nil ?_
    refine Sl.Post.thenN ?_
    refine Sl.Tr.ret ?_
    rotate_left
    refine Sl.G.ro (Sl.RO.rd (Sl.RO.move rfl)) rfl ?_
    refine Sl.G.pass rfl rfl ?_
    refine Sl.G.pass rfl rfl ?_
    refine Sl.G.pass rfl rfl ?_
    refine Sl.G.pass rfl rfl ?_
    refine Sl.G.pass rfl rfl ?_
    refine Sl.G.ro (Sl.RO.rd (Sl.RO.pickF rfl rfl)) rfl ?_
    refine Sl.G.nil ?_
    refine Sl.Post.thenN ?_
    refine Sl.Tr.condF rfl ?_
    refine Sl.Tr.exit ?_
    refine Sl.Post.thenE ?_
    refine Sl.Post.thenE ?_
    refine Sl.Post.blockE ?_
    refine Sl.Post.thenN ?_
    refine Sl.Tr.seq ?_
    refine Sl.Tr.region ?_
    refine Sl.G.ro (Sl.RO.rd (Sl.RO.move rfl)) rfl ?_
    refine Sl.G.ro (Sl.RO.rd (Sl.RO.assign rfl)) rfl ?_
    refine Sl.G.nil ?_
    refine Sl.Post.thenN ?_
    refine Sl.Tr.ret ?_
    rotate_left
    all_goals refine Sl.Post.fin rfl (.tmp rfl .nil) rfl (.p .h (.p .h (.p .h .n))) ?_ (.inl rfl)
    all_goals exact ⟨p, c, l, a', true, rfl, rfl, hfin, by omega⟩

structure TailV where
  (workers timeout runtime age : Int)
  deriving DecidableEq
abbrev TailV.cells (t : TailV) : List Value := [.int .i64 t.workers, .int .i64 t.timeout, .int .i64 t.runtime, .int .i64 t.age]
def rdTail (s : List UInt8) (a : Nat) : Option (TailV × Nat) :=
  (rdN s 1 a).bind fun x => (rdN s 1 x.2).bind fun y => (rdN s 2 y.2).bind fun z => (rdN s 2 z.2).map fun u => (⟨x.1, y.1, z.1, u.1⟩, u.2)
theorem getS_tail (u v : Value) (s : List UInt8) (a : Nat) (sh : Bool) (ha : a ≤ s.length) : ∃ t a' sh', getS s [(2, 1), (3, 1), (4, 2), (5, 2)] a sh ([u, v] ++ TailV.cells ⟨0, 0, 0, 0⟩) = (a', sh', [u, v] ++ TailV.cells t) ∧ RdR s (rdTail s) a sh t a' sh' := by
  cases sh
  · simp only [getS, getF, rdTail, rdN, RdR]
    by_cases h1 : 1 > s.length - a
    · have g1 : s.length - a = 0 := by omega
      rw [if_pos h1]
      exact ⟨⟨0, 0, 0, 0⟩, a, true, rfl, ha, fun h => (by cases h), fun _ => (by simp [g1])⟩
    · have g1 : ¬ s.length - a = 0 := by omega
      rw [if_neg h1]
      by_cases h2 : 1 > s.length - (a + 1)
      · have g2 : s.length - (a + 1) = 0 := by omega
        rw [if_pos h2]
        exact ⟨⟨_, 0, 0, 0⟩, a + 1, true, rfl, by omega, fun h => (by cases h), fun _ => (by simp [g1, g2])⟩
      · have g2 : ¬ s.length - (a + 1) = 0 := by omega
        rw [if_neg h2]
        by_cases h3 : 2 > s.length - (a + 1 + 1)
        · rw [if_pos h3]
          exact ⟨⟨_, _, 0, 0⟩, a + 1 + 1, true, rfl, by omega, fun h => (by cases h), fun _ => (by simp [g1, g2, h3])⟩
        · rw [if_neg h3]
          by_cases h4 : 2 > s.length - (a + 1 + 1 + 2)
          · rw [if_pos h4]
            exact ⟨⟨_, _, _, 0⟩, a + 1 + 1 + 2, true, rfl, by omega, fun h => (by cases h), fun _ => (by simp [g1, g2, h3, h4])⟩
          · rw [if_neg h4]
            exact ⟨⟨_, _, _, _⟩, a + 1 + 1 + 2 + 2, false, rfl, by omega, fun h => (by cases h), fun _ => (by simp [g1, g2, h3, h4])⟩
  · exact ⟨⟨0, 0, 0, 0⟩, a, true, rfl, ha, fun _ => rfl, fun h => (by cases h)⟩

def rdConfig (s : List UInt8) : Option ((List (List Units) × List QueueV × TailV) × Nat) :=
  (rdList s (rdNode s) 0).bind fun x => (rdList s (rdQueue s) x.2).bind fun y => (rdTail s y.2).map fun z => ((x.1, y.1, z.1), z.2)
theorem rdR_bind {α β γ : Type} {s : List UInt8} {p : Nat → Option (α × Nat)} {q : Nat → Option (β × Nat)} {f : α → β → γ} {a a1 a2 : Nat} {sh sh1 sh2 : Bool} {u : α} {v : β} (h1 : RdR s p a sh u a1 sh1) (h2 : RdR s q a1 sh1 v a2 sh2) :
    RdR s (fun a => (p a).bind fun x => (q x.2).map fun y => (f x.1 y.1, y.2)) a sh (f u v) a2 sh2 := by
  obtain ⟨g1, g2, g3⟩ := h1
  obtain ⟨k1, k2, k3⟩ := h2
  refine ⟨k1, fun h => k2 (g2 h), fun h0 => ?_⟩
  have h3 := g3 h0
  cases hp : p a with
  | none =>
    rw [hp] at h3
    have := k2 h3
    simp [hp, this]
  | some x =>
    obtain ⟨x1, x2⟩ := x
    rw [hp] at h3
    obtain ⟨e1, e2, e3⟩ := h3
    simp only at e2 e3
    subst e1 e2 e3
    have h4 := k3 rfl
    cases hq : q a1 with
    | none => rw [hq] at h4; simp [hp, hq]; exact h4
    | some y =>
      obtain ⟨y1, y2⟩ := y
      rw [hq] at h4
      obtain ⟨m1, m2, m3⟩ := h4
      simp only at m2 m3
      subst m1 m2 m3
      simp [hp, hq]

theorem wire_Config (F : Frm) (s : List UInt8) (hs : s.length ≤ 1000000) : FnOk Tryz.prog 22 [str s] [] F (fun v H => match rdConfig s with
    | some ((nds, qs, t), a) => ∃ (p : Option Addr) (c : Nat) (nodes : List NodeV) (pq : Option Addr) (cq : Nat), v = .tuple #[.agg (.slice p nodes.length c :: .slice pq qs.length cq :: TailV.cells t).toArray, str (s.drop a), .int .i64 0] ∧ H = [sA 92 1 NodeV.cells p c nodes, sep (nodes.map NodeV.mem), sA 106 3 QueueV.cells pq cq qs] ∧ nodes.map (·.ds) = nds ∧ nodes.length ≤ 255 ∧ qs.length ≤ 255 ∧ a ≤ s.length
    | none => v = .tuple #[.agg (.slice none 0 0 :: .slice none 0 0 :: TailV.cells ⟨0, 0, 0, 0⟩).toArray, str [], .int .i64 11] ∧ H = []) := by
  refine Sl.FnOk.of (κ := [(0, _)]) Go.Proofs.Tryz.func22 rfl rfl Go.Proofs.Tryz.ntmps22 rfl rfl ?_
  refine Sl.Tr.seq ?_
  refine Sl.Tr.region ?_
  refine Sl.G.alloc zv_65 rfl (fun b0 => ?_)
  refine Sl.G.ro (Sl.RO.rd (Sl.RO.assign rfl)) rfl ?_
  refine Sl.G.ro (Sl.RO.rd (Sl.RO.assign rfl)) rfl ?_
  refine Sl.G.nil ?_
  refine Sl.Post.thenN ?_
  refine Sl.Tr.seq ?_
  refine Sl.Tr.region ?_
  refine Sl.G.alloc zv_65 rfl (fun b1 => ?_)
  refine Sl.G.nil ?_
  refine Sl.Post.thenN ?_
  refine Sl.Tr.seq ?_
  refine Sl.Tr.region ?_
  refine Sl.G.ro (Sl.RO.rd (Sl.RO.move rfl)) rfl ?_
  refine Sl.G.ro (Sl.RO.rd (Sl.RO.build pl_88 zv_88 rfl rfl)) rfl ?_
  refine Sl.G.box rfl rfl rfl (fun b2 => ?_)
  refine Sl.G.alloc zv_86 rfl (fun b3 => ?_)
  refine Sl.G.store rfl rfl rfl rfl ly_86 rfl .h rfl ?_
  refine Sl.G.nil ?_
  refine Sl.Post.thenN ?_
  refine Sl.Tr.seq ?_
  refine Sl.Tr.region ?_
  refine Sl.G.ro (Sl.RD.load1 rfl .h ly_86 rfl) rfl ?_
  refine Sl.G.ro (Sl.RO.rd (Sl.RO.makeFunc rfl rfl)) rfl ?_
  refine Sl.G.call rfl rfl .n (.c (.c .n)) (.p (.t .h) .n) (fun G' hle hhas => Go.Proofs.YtcaojfapibkplaaGreatDoor.many_node (ht := hhas _ (Sl.memAt 0 rfl)) (hs := (by assumption)) (ha := (by simp)) ..) rfl (fun v K hR => ?_)
  obtain ⟨p4, ⟨c5, ⟨l6, ⟨a7, ⟨sh8, ⟨rfl, ⟨rfl, ⟨hq9, hq10⟩⟩⟩⟩⟩⟩⟩⟩ := hR
  refine Sl.G.app (.c (.c (.c .n))) ?_
  refine Sl.G.ro (Sl.RO.rd (Sl.RO.fieldAddr rfl fo_65_0)) rfl ?_
  refine Sl.G.ro (Sl.RO.rd (Sl.RO.fieldAddr rfl fo_62_0)) rfl ?_
  refine Sl.G.store rfl rfl rfl rfl ly_60 rfl (.t (.t (.t (.t .h)))) rfl ?_
  refine Sl.G.nil ?_
  refine Sl.Post.thenN ?_
  refine Sl.Tr.seq ?_
  refine Sl.Tr.region ?_
  refine Sl.G.ro (Sl.RD.load1 rfl (.t (.t (.t .h))) ly_86 rfl) rfl ?_
  refine Sl.G.ro (Sl.RO.rd (Sl.RO.makeFunc rfl rfl)) rfl ?_
  have ha7 := hq9.1
  refine Sl.G.call rfl rfl .n (.c (.c .n)) (.p .h .n) (fun G' hle hhas => Go.Proofs.YtcaojfapibkplaaGreatDoor.many_queue (ht := hhas _ (Sl.memAt 2 rfl)) (hs := (by assumption)) (ha := (by assumption)) ..) rfl (fun v K hR => ?_)
  obtain ⟨p11, ⟨c12, ⟨l13, ⟨a14, ⟨sh15, ⟨rfl, ⟨rfl, ⟨hq16, hq17⟩⟩⟩⟩⟩⟩⟩⟩ := hR
  refine Sl.G.app (.c (.c .n)) ?_
  refine Sl.G.ro (Sl.RO.rd (Sl.RO.fieldAddr rfl fo_65_1)) rfl ?_
  refine Sl.G.store rfl rfl rfl rfl ly_63 rfl (.t (.t (.t (.t (.t .h))))) rfl ?_
  refine Sl.G.nil ?_
  refine Sl.Post.thenN ?_
  refine Sl.Tr.seq ?_
  refine Sl.Tr.region ?_
  refine Sl.G.call rfl rfl .n (.c .n) .n (fun G' hle hhas => Go.Proofs.YtcaojfapibkplaaGreatDoor.wire_tail  ..) rfl (fun v K hR => ?_)
  obtain ⟨rfl, rfl⟩ := hR
  refine Sl.G.app .n ?_
  refine Sl.G.alloc zv_113 rfl (fun b18 => ?_)
  refine Sl.G.store rfl rfl rfl rfl ly_113 rfl .h rfl ?_
  refine Sl.G.nil ?_
  refine Sl.Post.thenN ?_
  refine Sl.Tr.seq ?_
  refine Sl.Tr.seq ?_
  refine Sl.Tr.draw (fuel := 3) (listed := [false, false, false]) mixed rfl rfl ?_
  refine Sl.GD.take (i := 1) rfl rfl rfl (Sl.RO.sliceArr rfl ar_113) rfl ?_
  refine Sl.GD.rd (i := 0) rfl rfl rfl (Sl.RD.load1 rfl (.t (.t (.t (.t (.t .h))))) ly_86 rfl) rfl ?_
  have ha14 := hq16.1
  refine Sl.GD.mem (fun hs => Sl.Sat.ptsA (l := [(2, 1), (3, 1), (4, 2), (5, 2)]) (fldC.el b1) (rfl) .h hs) ?_
  obtain ⟨t, a', sh', hg, hr⟩ := getS_tail (.slice p4 l6.length c5) (.slice p11 l13.length c12) s a14 sh15 ha14
  have ha' := hr.1
  have hcf := (rdR_bind (f := fun x y => (x, y)) hq9 (rdR_bind (f := fun x y => (x, y)) hq16 hr)).2.2 rfl
  have hcfg : rdConfig s = (if sh' = true then none else some ((l6.map (·.ds), l13, t), a')) := by
    have hrc : rdConfig s = (rdList s (rdNode s) 0).bind fun x => ((rdList s (rdQueue s) x.2).bind fun y => (rdTail s y.2).map fun z => ((y.1, z.1), z.2)).map fun y => ((x.1, y.1), y.2) := by
      unfold rdConfig
      cases rdList s (rdNode s) 0 with
      | none => rfl
      | some x =>
        simp only [Option.bind_some]
        cases rdList s (rdQueue s) x.2 with
        | none => rfl
        | some y =>
          simp only [Option.bind_some]
          cases rdTail s y.2 <;> rfl
    rw [hrc]
    split at hcf
    · rename_i x hx
      obtain ⟨e1, e2, e3⟩ := hcf
      rw [if_neg (by rw [e1]; decide), e2, e3]
      exact hx
    · rename_i hx
      rw [if_pos hcf]
      exact hx
  refine Sl.GD.call (i := 2) rfl rfl rfl rfl rfl .n (.c (.c .n)) (.p (.t .h) (.p (.t (.t (.t (.t (.t .h))))) .n)) (fun G' hle hhas => reader_get2 (b := b1) (hg := hg) (hv := hhas _ (Sl.memAt 0 rfl)) (hs := (by assumption)) (ha := (by assumption)) (hz := (by simp)) (hd := (by decide)) (hn := (by decide)) (hfl := (by decide)) (hfl2 := (by decide)) ..) rfl (fun v K hR => ?_)
  obtain ⟨rfl, rfl⟩ := hR
  refine Sl.GD.app (.c (.c .n)) ?_
  refine Sl.GD.done rfl ?_
  refine Sl.Post.thenN ?_
  refine Sl.Tr.seq ?_
  refine Sl.Tr.region ?_
  refine Sl.G.ro (Sl.RD.load1 rfl (.t (.t (.t (.t (.t (.t .h)))))) ly_86 rfl) rfl ?_
  refine Sl.G.ro (Sl.RO.rd (Sl.RO.nilCheck rfl)) rfl ?_
  refine Sl.G.ro (Sl.RO.rd (Sl.RO.fieldAddr rfl fo_88_2)) rfl ?_
  refine Sl.G.ro (Sl.RD.load1 rfl .h ly_4 rfl) rfl ?_
  refine Sl.G.nil ?_
  refine Sl.Post.thenN ?_
  refine Sl.Tr.cond rfl (fun hb19 => ?_) (fun hb19 => ?_)
  refine Sl.Tr.seq ?_
  refine Sl.Tr.region ?_
  refine Sl.G.ro (Sl.RO.rd (Sl.RO.build pl_65 zv_65 rfl rfl)) rfl ?_
  refine Sl.G.store rfl rfl rfl rfl ly_65 rfl (.t (.t (.t (.t (.t (.t (.t .h))))))) rfl ?_
  refine Sl.G.ro (Sl.RO.rd (Sl.RO.assign rfl)) rfl ?_
  refine Sl.G.ro (Sl.RO.rd (Sl.RO.assign rfl)) rfl ?_
  refine Sl.G.nil ?_
  refine Sl.Post.thenN ?_
  refine Sl.Tr.ret ?_
  refine Sl.Post.thenR ?_
  rotate_left
  refine Sl.Tr.skip ?_
  refine Sl.Post.thenN ?_
  refine Sl.Tr.seq ?_
  refine Sl.Tr.freeze (.t .h) (fun G20 hle20 hfz20 back20 thaw20 => ?_)
  refine Sl.Tr.freeze (.t (.t (.t (.t (.t .h))))) (fun G21 hle21 hfz21 back21 thaw21 => ?_)
  have hfz20_21 := Sl.Frm.has_mono hfz20 hle21
  refine Sl.Tr.freeze .h (fun G22 hle22 hfz22 back22 thaw22 => ?_)
  have hfz21_22 := Sl.Frm.has_mono hfz21 hle22
  have hfz20_21_22 := Sl.Frm.has_mono hfz20_21 hle22
  refine Sl.Tr.draw (fuel := 10) (listed := [false, false, false, false, false, false, false, false, false, false]) mixed rfl rfl ?_
  refine Sl.GD.take (i := 0) rfl rfl rfl (Sl.RO.load rfl hfz20_21_22 ly_65 rfl) rfl ?_
  refine Sl.GD.take (i := 1) rfl rfl rfl (Sl.RO.move rfl) rfl ?_
  refine Sl.GD.take (i := 2) rfl rfl rfl (Sl.RO.load1 rfl hfz21_22 ly_86 rfl) rfl ?_
  refine Sl.GD.take (i := 3) rfl rfl rfl (Sl.RO.nilCheck rfl) rfl ?_
  refine Sl.GD.take (i := 4) rfl rfl rfl (Sl.RO.fieldAddr rfl fo_88_1) rfl ?_
  refine Sl.GD.take (i := 5) rfl rfl rfl (Sl.RO.load1 rfl hfz22 ly_3 rfl) rfl ?_
  refine Sl.GD.take (i := 6) rfl rfl rfl (Sl.RO.sliceStrFromI (a') rfl rfl st_9 ⟨by omega, by omega⟩) rfl ?_
  refine Sl.GD.store (i := 7) rfl rfl rfl rfl rfl rfl rfl ly_65 rfl (.t (.t (.t (.t .h)))) rfl ?_
  refine Sl.GD.take (i := 8) rfl rfl rfl (Sl.RO.assign rfl) rfl ?_
  refine Sl.GD.take (i := 9) rfl rfl rfl (Sl.RO.assign rfl) rfl ?_
  refine Sl.GD.done rfl (back22 _ _ _ _ _ _ (back21 _ _ _ _ _ _ (back20 _ _ _ _ _ _ ?_)))
  clear G20 hle20 hfz20 back20 thaw20 G21 hle21 hfz21 back21 thaw21 hfz20_21 G22 hle22 hfz22 back22 thaw22 hfz21_22 hfz20_21_22
  refine Sl.Post.thenN ?_
  refine Sl.Tr.ret ?_
  rotate_left
  · refine Sl.Post.fin rfl (.cell rfl (.t (.t (.t (.t (.t (.t (.t .h))))))) ly_65 rfl (.tmp rfl (.tmp rfl .nil))) rfl .n ?_ (.inl rfl)
    rw [hcfg, if_pos (by assumption)]
    exact ⟨rfl, rfl⟩
  · rw [if_neg (by rw [‹sh' = false›]; decide)] at hcfg
    simp only [hcfg]
    refine Sl.Post.fin rfl (.cell rfl (.t (.t (.t (.t (.t (.t (.t .h))))))) ly_65 rfl (.tmp rfl (.tmp rfl .nil))) rfl (.p (.t (.t (.t (.t (.t .h))))) (.p (.t (.t (.t (.t (.t .h))))) (.p (.t (.t (.t (.t .h)))) .n))) ?_ (.inl rfl)
    skip
    exact ⟨p4, c5, l6, p11, c12, rfl, rfl, rfl, hq10, hq17, ha'⟩
end Go.Proofs.YtcaojfapibkplaaGreatDoor
namespace Go.Proofs.YtcaojfapibkplaaGreatDoor
open Go Go.Sl Go.En

abbrev zJob : Job := ⟨0, 0, 0, 0, ⟨0, 0, 0, 0⟩⟩
abbrev ActV := Go.En.Act
abbrev ActV.cells (a : ActV) : List Value := [.int .i64 a.kind, .int .i64 a.n, .int .i64 a.job.id, .int .i64 a.job.queue, .int .i64 a.job.prio, .int .i64 a.job.runtime, .int .i64 a.job.shape.gpus, .int .i64 a.job.shape.cpus, .int .i64 a.job.shape.mn, .int .i64 a.job.shape.mx]
structure EntryV where
  act : ActV
  err : Int
  at_ : Int
  deriving DecidableEq
abbrev EntryV.cells (e : EntryV) : List Value := [.int .i64 e.act.kind, .int .i64 e.act.n, .int .i64 e.act.job.id, .int .i64 e.act.job.queue, .int .i64 e.act.job.prio, .int .i64 e.act.job.runtime, .int .i64 e.act.job.shape.gpus, .int .i64 e.act.job.shape.cpus, .int .i64 e.act.job.shape.mn, .int .i64 e.act.job.shape.mx, .int .i64 e.err, .int .i64 e.at_]
theorem EntryV.el : El EntryV.cells 12 := ⟨fun _ => rfl, fun _ => rfl, by decide⟩
/-- so many bytes from a place on, as a number -/
def nAt (s : List UInt8) (a n : Nat) : Int := (num ((s.drop a).take n) : Nat)
/-- an entry's act: the bytes behind its Kind begin at a -/
def actAt (s : List UInt8) (k : Int) (a : Nat) : ActV :=
  if k = 0 then ⟨0, 0, ⟨nAt s a 2, nAt s (a + 2) 1, nAt s (a + 3) 1, nAt s (a + 4) 2, ⟨nAt s (a + 6) 1, nAt s (a + 7) 2, nAt s (a + 9) 1, nAt s (a + 10) 1⟩⟩⟩
  else if k = 1 ∨ k = 2 ∨ k = 7 then ⟨k, nAt s a 2, zJob⟩ else if k = 3 ∨ k = 4 ∨ k = 6 then ⟨k, nAt s a 1, zJob⟩ else ⟨k, 0, zJob⟩
/-- how many bytes stand behind a Kind -/
def actSz (k : Int) : Option Nat := if k = 0 then some 11 else if k = 1 ∨ k = 2 ∨ k = 7 then some 2 else if k = 3 ∨ k = 4 ∨ k = 6 then some 1 else if k = 5 then some 0 else none
/-- the entry at a place, and the next place -/
def entryAt (s : List UInt8) (x : UInt8) (a : Nat) : EntryV × Nat :=
  match actSz x.toNat with
  | none => (⟨⟨0, 0, zJob⟩, 10, a⟩, a + 1)
  | some n => if n > s.length - (a + 1) then (⟨⟨0, 0, zJob⟩, 11, a⟩, s.length) else (⟨actAt s x.toNat (a + 1), 0, a⟩, a + 1 + n)
def entriesF (s : List UInt8) : Nat → Nat → List EntryV
  | 0, _ => []
  | f + 1, a => match s[a]? with
    | none => []
    | some x => (entryAt s x a).1 :: entriesF s f (entryAt s x a).2
def entries (s : List UInt8) : List EntryV := entriesF s (s.length + 1) 0

theorem reader_get_nil (F : Frm) (r : Nat) (p : Option Addr) (c : Nat) : FnOk Tryz.prog 31 [.pointer (some ⟨r, 0, none⟩), .slice p 0 c] [] F (fun v H => v = .tuple #[] ∧ H = []) := by
  refine Sl.FnOk.of (κ := [(0, _), (1, _)]) Go.Proofs.Tryz.func31 rfl rfl Go.Proofs.Tryz.ntmps31 rfl rfl ?_
  refine Sl.Tr.seq ?_
  refine Sl.Tr.region ?_
  refine Sl.G.ro (Sl.RO.rd (Sl.RO.move rfl)) rfl ?_
  refine Sl.G.ro (Sl.RO.rd (Sl.RO.lenSl rfl sl_99)) rfl ?_
  refine Sl.G.ro (Sl.RO.rd (Sl.RO.move rfl)) rfl ?_
  refine Sl.G.nil ?_
  refine Sl.Post.thenN ?_
  refine Sl.Tr.block ?_
  refine Sl.Tr.loop (α := Unit) (fun _ => [(8, .int .i64 0)]) [(7, _), (6, _), (0, _), (1, _)] (fun _ => []) [] (fun _ => True) (fun _ => 0) (()) ?_ ⟨rfl, trivial⟩ ⟨rfl, rfl, rfl, rfl, trivial⟩ .o ?_
  · exact trivial
  rintro _ _
  dsimp only [List.cons_append, List.nil_append]
  (try dsimp only at *)
  refine Sl.Tr.seq ?_
  refine Sl.Tr.region ?_
  refine Sl.G.ro (Sl.RO.rd (Sl.RO.bF (Sl.RO.lss rfl rfl) (by omega))) rfl ?_
  refine Sl.G.nil ?_
  refine Sl.Post.thenN ?_
  refine Sl.Tr.seq ?_
  refine Sl.Tr.condF rfl ?_
  refine Sl.Tr.exit ?_
  refine Sl.Post.thenE ?_
  refine Sl.Post.thenE ?_
  refine Sl.Post.blockE ?_
  refine Sl.Post.fin rfl .nil rfl .n ?_ (.inr rfl)
  exact ⟨rfl, rfl⟩

def totF : List (Nat × Nat) → Nat
  | [] => 0
  | f :: r => f.2 + totF r
def putF (s : List UInt8) : List (Nat × Nat) → Nat → List Value → List Value
  | [], _, cs => cs
  | (off, n) :: r, a, cs => putF s r (a + n) (cs.set off (.int .i64 (nAt s a n)))
theorem getF_full (s : List UInt8) : ∀ (fs : List (Nat × Nat)) (a : Nat) (cs : List Value), totF fs ≤ s.length - a → getF s fs a cs = (a + totF fs, false, putF s fs a cs)
  | [], _, _, _ => rfl
  | (off, n) :: r, a, cs, h => by
    simp only [totF] at h
    simp only [getF, putF, totF]
    rw [if_neg (by omega), getF_full s r (a + n) _ (by omega)]
    rw [Nat.add_assoc]; rfl
theorem getF_short (s : List UInt8) : ∀ (fs : List (Nat × Nat)) (a : Nat) (cs : List Value), a ≤ s.length → s.length - a < totF fs → (getF s fs a cs).2.1 = true
  | [], _, _, _, h => by simp [totF] at h
  | (off, n) :: r, a, cs, ha, h => by
    simp only [totF] at h
    simp only [getF]
    split
    · rfl
    · exact getF_short s r (a + n) _ (by omega) (by omega)
theorem EntryV.set (e : EntryV) (z : Int) : ∀ (off : Nat), off < 10 → ∃ e', (EntryV.cells e).set off (.int .i64 z) = EntryV.cells e' ∧ e'.at_ = e.at_
  | 0, _ => ⟨{ e with act := { e.act with kind := z } }, rfl, rfl⟩
  | 1, _ => ⟨{ e with act := { e.act with n := z } }, rfl, rfl⟩
  | 2, _ => ⟨{ e with act := { e.act with job := { e.act.job with id := z } } }, rfl, rfl⟩
  | 3, _ => ⟨{ e with act := { e.act with job := { e.act.job with queue := z } } }, rfl, rfl⟩
  | 4, _ => ⟨{ e with act := { e.act with job := { e.act.job with prio := z } } }, rfl, rfl⟩
  | 5, _ => ⟨{ e with act := { e.act with job := { e.act.job with runtime := z } } }, rfl, rfl⟩
  | 6, _ => ⟨{ e with act := { e.act with job := { e.act.job with shape := { e.act.job.shape with gpus := z } } } }, rfl, rfl⟩
  | 7, _ => ⟨{ e with act := { e.act with job := { e.act.job with shape := { e.act.job.shape with cpus := z } } } }, rfl, rfl⟩
  | 8, _ => ⟨{ e with act := { e.act with job := { e.act.job with shape := { e.act.job.shape with mn := z } } } }, rfl, rfl⟩
  | 9, _ => ⟨{ e with act := { e.act with job := { e.act.job with shape := { e.act.job.shape with mx := z } } } }, rfl, rfl⟩
theorem getF_form (s : List UInt8) : ∀ (fs : List (Nat × Nat)) (a : Nat) (e : EntryV), (∀ f ∈ fs, f.1 < 10) → ∃ e', (getF s fs a (EntryV.cells e)).2.2 = EntryV.cells e' ∧ e'.at_ = e.at_
  | [], _, e, _ => ⟨e, rfl, rfl⟩
  | (off, n) :: r, a, e, h => by
    simp only [getF]
    split
    · exact ⟨e, rfl, rfl⟩
    · obtain ⟨e1, h1, h2⟩ := EntryV.set e (num ((s.drop a).take n) : Nat) off (h (off, n) (by simp))
      rw [h1, ← h2]
      exact getF_form s r (a + n) e1 (fun f hf => h f (by simp [hf]))

/-- what get does to an entry's cells -/
theorem getF_entry (s : List UInt8) (k e : Int) (fs : List (Nat × Nat)) (hk : fieldsOf k = some fs) (a : Nat) (ha : a ≤ s.length) :
    actSz k = some (totF fs) ∧ ∃ a' e', a' ≤ s.length ∧ e'.at_ = e ∧ getF s fs a (EntryV.cells ⟨⟨k, 0, zJob⟩, 0, e⟩) = (a', decide (totF fs > s.length - a), EntryV.cells e') ∧
      (¬ totF fs > s.length - a → a' = a + totF fs ∧ e' = ⟨actAt s k a, 0, e⟩) := by
  have hact : actSz k = some (totF fs) ∧ putF s fs a (EntryV.cells ⟨⟨k, 0, zJob⟩, 0, e⟩) = EntryV.cells ⟨actAt s k a, 0, e⟩ ∧ ∀ f ∈ fs, f.1 < 10 := by
    unfold fieldsOf at hk
    unfold actSz actAt
    split at hk
    · rename_i h; subst h; cases hk
      exact ⟨rfl, rfl, by decide⟩
    · split at hk
      · rename_i h0 h; cases hk
        rw [if_neg h0, if_pos h, if_neg h0, if_pos h]
        exact ⟨rfl, rfl, by decide⟩
      · split at hk
        · rename_i h0 h1 h; cases hk
          rw [if_neg h0, if_neg h1, if_pos h, if_neg h0, if_neg h1, if_pos h]
          exact ⟨rfl, rfl, by decide⟩
        · split at hk
          · rename_i h0 h1 h2 h; cases hk
            rw [if_neg h0, if_neg h1, if_neg h2, if_pos h, if_neg h0, if_neg h1, if_neg h2]
            exact ⟨rfl, rfl, by simp⟩
          · cases hk
  obtain ⟨h1, h2, h3⟩ := hact
  refine ⟨h1, ?_⟩
  by_cases hs : totF fs > s.length - a
  · obtain ⟨e', he, he2⟩ := getF_form s fs a ⟨⟨k, 0, zJob⟩, 0, e⟩ h3
    refine ⟨(getF s fs a (EntryV.cells ⟨⟨k, 0, zJob⟩, 0, e⟩)).1, e', getF_len s fs a _ ha, he2, ?_, fun h => absurd hs h⟩
    have := getF_short s fs a (EntryV.cells ⟨⟨k, 0, zJob⟩, 0, e⟩) ha hs
    rw [← he, ← show _ = decide _ from this.trans (by simp [hs])]
  · refine ⟨a + totF fs, ⟨actAt s k a, 0, e⟩, by omega, rfl, ?_, fun _ => ⟨rfl, rfl⟩⟩
    rw [getF_full s fs a _ (by omega), h2]
    simp [hs]
theorem fieldsOf_facts (k : Int) (fs : List (Nat × Nat)) (hk : fieldsOf k = some fs) : (∀ f ∈ fs, f.1 ≠ 0 ∧ f.1 < 10) ∧ (fs.map (·.1)).Nodup ∧ (∀ f ∈ fs, f.2 ≤ 3) ∧ fs.length ≤ 100 := by
  unfold fieldsOf at hk
  split at hk
  · cases hk; decide
  · split at hk
    · cases hk; decide
    · split at hk
      · cases hk; decide
      · split at hk
        · cases hk; simp
        · cases hk

theorem entryAt_next (s : List UInt8) (x : UInt8) (a : Nat) (ha : a < s.length) : a < (entryAt s x a).2 ∧ (entryAt s x a).2 ≤ s.length := by
  unfold entryAt
  split
  · simp only; omega
  · split
    · simp only; omega
    · simp only; omega
theorem entriesF_mono (s : List UInt8) : ∀ (m a f g : Nat), s.length - a ≤ m → s.length - a < f → s.length - a < g → entriesF s f a = entriesF s g a := by
  intro m
  induction m with
  | zero =>
    intro a f g hm hf hg
    cases f with
    | zero => omega
    | succ f => cases g with
      | zero => omega
      | succ g => simp only [entriesF]; rw [List.getElem?_eq_none (by omega)]
  | succ m ih =>
    intro a f g hm hf hg
    cases f with
    | zero => omega
    | succ f => cases g with
      | zero => omega
      | succ g =>
        simp only [entriesF]
        cases hx : s[a]? with
        | none => rfl
        | some x =>
          have ha : a < s.length := by
            rcases Nat.lt_or_ge a s.length with h | h
            · exact h
            · rw [List.getElem?_eq_none h] at hx; cases hx
          have := entryAt_next s x a ha
          simp only
          rw [ih _ f g (by omega) (by omega) (by omega)]

theorem wire_Entries (F : Frm) (s : List UInt8) (hs : s.length ≤ 1000000) : FnOk Tryz.prog 24 [str s] [] F (fun v H => ∃ p c, v = .slice p (entries s).length c ∧ H = [sA 82 12 EntryV.cells p c (entries s)]) := by
  refine Sl.FnOk.of (κ := [(0, _)]) Go.Proofs.Tryz.func24 rfl rfl Go.Proofs.Tryz.ntmps24 rfl rfl ?_
  refine Sl.Tr.seq ?_
  refine Sl.Tr.region ?_
  refine Sl.G.ro (Sl.RO.rd (Sl.RO.assign rfl)) rfl ?_
  refine Sl.G.nil ?_
  refine Sl.Post.thenN ?_
  refine Sl.Tr.seq ?_
  refine Sl.Tr.region ?_
  refine Sl.G.ro (Sl.RO.rd (Sl.RO.assign rfl)) rfl ?_
  refine Sl.G.nil ?_
  refine Sl.Post.thenN ?_
  refine Sl.Tr.seq ?_
  refine Sl.Tr.region ?_
  refine Sl.G.ro (Sl.RO.rd (Sl.RO.move rfl)) rfl ?_
  refine Sl.G.ro (Sl.RO.rd (Sl.RO.build pl_88 zv_88 rfl rfl)) rfl ?_
  refine Sl.G.box rfl rfl rfl (fun b0 => ?_)
  refine Sl.G.ro (Sl.RO.rd (Sl.RO.assign rfl)) rfl ?_
  refine Sl.G.nil ?_
  refine Sl.Post.thenN ?_
  refine Sl.Tr.seq ?_
  refine Sl.Tr.block ?_
  refine Sl.Tr.nilS 82 12 EntryV.cells ?_
  refine Sl.Tr.loop (α := Nat × Bool × List EntryV × Option Addr × Nat) (fun g => [(3, .slice g.2.2.2.1 g.2.2.1.length g.2.2.2.2)]) [(4, _), (10, _), (9, _), (8, _), (2, _), (0, _)] (fun g => [rdA b0 s g.1 g.2.1, sA 82 12 EntryV.cells g.2.2.2.1 g.2.2.2.2 g.2.2.1]) [] (fun g => g.1 ≤ s.length ∧ g.2.2.1.length ≤ g.1 ∧ (g.2.1 = true → g.1 = s.length) ∧ g.2.2.1 ++ entriesF s (s.length - g.1 + 1) g.1 = entries s) (fun g => s.length - g.1) ((0, false, [], none, 0)) ?_ ⟨rfl, trivial⟩ ⟨rfl, rfl, rfl, rfl, rfl, rfl, trivial⟩ (.p (.t .h) (.p .h .o)) ?_
  · exact ⟨Nat.zero_le _, Nat.le_refl _, fun h => (by cases h), rfl⟩
  rintro ⟨a, sh, l, p, c⟩ ⟨ha, hl, hsh, he⟩
  dsimp only [List.cons_append, List.nil_append]
  (try dsimp only at *)
  rcases Nat.lt_or_ge a s.length with hal | hal
  · have hsf : sh = false := by
      cases sh with
      | false => rfl
      | true => have := hsh rfl; omega
    subst hsf
    obtain ⟨x, hx⟩ := get_lt (l := s) (i := a) hal
    have hxb := x.toNat_lt
    have hes : entriesF s (s.length - a + 1) a = (entryAt s x a).1 :: entriesF s (s.length - (entryAt s x a).2 + 1) (entryAt s x a).2 := by
      have hn := entryAt_next s x a hal
      rw [entriesF, hx]
      simp only
      rw [entriesF_mono s _ _ _ _ (Nat.le_refl _) (by omega) (Nat.lt_succ_self _)]
    rw [hes] at he
    cases hfs : fieldsOf x.toNat with
    | none =>
      refine Sl.Tr.seq ?_
      refine Sl.Tr.seq ?_
      refine Sl.Tr.region ?_
      refine Sl.G.ro (Sl.RO.rd (Sl.RO.move rfl)) rfl ?_
      refine Sl.G.ro (Sl.RO.rd (Sl.RO.nilCheck rfl)) rfl ?_
      refine Sl.G.ro (Sl.RO.rd (Sl.RO.fieldAddr rfl fo_88_1)) rfl ?_
      refine Sl.G.ro (Sl.RD.load1 rfl .h ly_3 rfl) rfl ?_
      refine Sl.G.ro (Sl.RO.rd (Sl.RO.move rfl)) rfl ?_
      refine Sl.G.ro (Sl.RO.rd (Sl.RO.lenStr rfl st_9)) rfl ?_
      refine Sl.G.ro (Sl.RO.rd (Sl.RO.bT (Sl.RO.lss rfl rfl) (by omega))) rfl ?_
      refine Sl.G.nil ?_
      refine Sl.Post.thenN ?_
      refine Sl.Tr.condT rfl ?_
      refine Sl.Tr.skip ?_
      refine Sl.Post.thenN ?_
      refine Sl.Tr.block ?_
      refine Sl.Tr.seq ?_
      refine Sl.Tr.region ?_
      refine Sl.G.ro (Sl.RO.rd (Sl.RO.move rfl)) rfl ?_
      refine Sl.G.ro (Sl.RO.rd (Sl.RO.nilCheck rfl)) rfl ?_
      refine Sl.G.ro (Sl.RO.rd (Sl.RO.fieldAddr rfl fo_88_1)) rfl ?_
      refine Sl.G.ro (Sl.RD.load1 rfl .h ly_3 rfl) rfl ?_
      refine Sl.G.ro (Sl.RO.rd (Sl.RO.build pl_82 zv_82 rfl rfl)) rfl ?_
      refine Sl.G.alloc zv_82 rfl (fun b1 => ?_)
      refine Sl.G.store rfl rfl rfl rfl ly_82 rfl .h rfl ?_
      refine Sl.G.nil ?_
      refine Sl.Post.thenN ?_
      refine Sl.Tr.seq ?_
      refine Sl.Tr.region ?_
      refine Sl.G.ro (Sl.RO.rd (Sl.RO.move rfl)) rfl ?_
      refine Sl.G.ro (Sl.RO.rd (Sl.RO.move rfl)) rfl ?_
      refine Sl.G.ro (Sl.RO.rd (Sl.RO.nilCheck rfl)) rfl ?_
      refine Sl.G.ro (Sl.RO.rd (Sl.RO.fieldAddr rfl fo_88_1)) rfl ?_
      refine Sl.G.ro (Sl.RD.load1 rfl (.t .h) ly_3 rfl) rfl ?_
      refine Sl.G.ro (Sl.RO.rd (Sl.RO.indexStrI rfl rfl st_9 hx (by omega))) rfl ?_
      refine Sl.G.ro (Sl.RO.rd (Sl.RO.convI64 rfl ik_5 ik_3 (by omega))) rfl ?_
      refine Sl.G.ro (Sl.RO.rd (Sl.RO.fieldAddr rfl fo_82_0)) rfl ?_
      refine Sl.G.ro (Sl.RO.rd (Sl.RO.fieldAddr rfl fo_80_0)) rfl ?_
      refine Sl.G.store rfl rfl rfl rfl ly_3 rfl .h rfl ?_
      refine Sl.G.nil ?_
      refine Sl.Post.thenN ?_
      refine Sl.Tr.seq ?_
      refine Sl.Tr.region ?_
      refine Sl.G.ro (Sl.RO.rd (Sl.RO.move rfl)) rfl ?_
      refine Sl.G.ro (Sl.RO.rd (Sl.RO.nilCheck rfl)) rfl ?_
      refine Sl.G.ro (Sl.RO.rd (Sl.RO.fieldAddr rfl fo_88_1)) rfl ?_
      refine Sl.G.ro (Sl.RD.load1 rfl (.t .h) ly_3 rfl) rfl ?_
      refine Sl.G.ro (Sl.RO.rd (Sl.RO.addI rfl rfl (by omega))) rfl ?_
      refine Sl.G.ro (Sl.RO.rd (Sl.RO.nilCheck rfl)) rfl ?_
      refine Sl.G.ro (Sl.RO.rd (Sl.RO.fieldAddr rfl fo_88_1)) rfl ?_
      refine Sl.G.store rfl rfl rfl rfl ly_3 rfl (.t .h) rfl ?_
      refine Sl.G.nil ?_
      refine Sl.Post.thenN ?_
      refine Sl.Tr.seq ?_
      refine Sl.Tr.region ?_
      refine Sl.G.ro (Sl.RO.rd (Sl.RO.fieldAddr rfl fo_82_0)) rfl ?_
      refine Sl.G.call rfl rfl .n (.c .n) .n (fun G' hle hhas => Go.Proofs.YtcaojfapibkplaaGreatDoor.wire_fields (hv := hhas _ (Sl.memAt 0 rfl)) ..) rfl (fun v K hR => ?_)
      refine Sl.G.ro (Sl.RO.rd (Sl.RO.move rfl)) rfl ?_
      rw [hfs] at hR
      obtain ⟨rfl, rfl⟩ := hR
      refine Sl.G.app .n ?_
      refine Sl.G.ro (Sl.RO.rd (Sl.RO.extractL rfl rfl)) rfl ?_
      refine Sl.G.ro (Sl.RO.rd (Sl.RO.extractL rfl rfl)) rfl ?_
      refine Sl.G.ro (Sl.RO.rd (Sl.RO.assign rfl)) rfl ?_
      refine Sl.G.ro (Sl.RO.rd (Sl.RO.assign rfl)) rfl ?_
      refine Sl.G.nil ?_
      refine Sl.Post.thenN ?_
      refine Sl.Tr.seq ?_
      refine Sl.Tr.region ?_
      refine Sl.G.ro (Sl.RO.rd (Sl.RO.move rfl)) rfl ?_
      refine Sl.G.ro (Sl.RO.rd (Sl.RO.move rfl)) rfl ?_
      refine Sl.G.call rfl rfl .n (.c (.c .n)) .n (fun G' hle hhas => Go.Proofs.YtcaojfapibkplaaGreatDoor.reader_get_nil  ..) rfl (fun v K hR => ?_)
      obtain ⟨rfl, rfl⟩ := hR
      refine Sl.G.app .n ?_
      refine Sl.G.nil ?_
      refine Sl.Post.thenN ?_
      refine Sl.Tr.seq ?_
      refine Sl.Tr.block ?_
      refine Sl.Tr.seq ?_
      refine Sl.Tr.region ?_
      refine Sl.G.ro (Sl.RO.rd (Sl.RO.move rfl)) rfl ?_
      refine Sl.G.ro (Sl.RO.rd (Sl.RO.notL (c := true) rfl rfl)) rfl ?_
      refine Sl.G.ro (Sl.RO.rd (Sl.RO.assign rfl)) rfl ?_
      refine Sl.G.nil ?_
      refine Sl.Post.thenN ?_
      refine Sl.Tr.condT rfl ?_
      refine Sl.Tr.region ?_
      refine Sl.G.ro (Sl.RO.rd (Sl.RO.build pl_80 zv_80 rfl rfl)) rfl ?_
      refine Sl.G.ro (Sl.RO.rd (Sl.RO.fieldAddr rfl fo_82_0)) rfl ?_
      refine Sl.G.store rfl rfl rfl rfl ly_80 rfl .h rfl ?_
      refine Sl.G.ro (Sl.RO.rd (Sl.RO.fieldAddr rfl fo_82_1)) rfl ?_
      refine Sl.G.store rfl rfl rfl rfl ly_24 rfl .h rfl ?_
      refine Sl.G.nil ?_
      refine Sl.Post.blockN ?_
      refine Sl.Post.thenN ?_
      refine Sl.Tr.region ?_
      refine Sl.G.ro (Sl.RO.rd (Sl.RO.move rfl)) rfl ?_
      refine Sl.G.ro (Sl.RD.load rfl .h ly_82 rfl) rfl ?_
      refine Sl.G.buildSlice ap_71 rfl rfl rfl rfl rfl (fun b2 => ?_)
      skip
      have hea : entryAt s x a = (⟨⟨0, 0, zJob⟩, 10, a⟩, a + 1) := by
        have h1 : actSz x.toNat = none := by
          unfold fieldsOf at hfs
          unfold actSz
          split at hfs
          · cases hfs
          · split at hfs
            · cases hfs
            · split at hfs
              · cases hfs
              · split at hfs
                · cases hfs
                · rename_i g0 g1 g2 g3
                  rw [if_neg g0, if_neg g1, if_neg g2, if_neg g3]
        unfold entryAt; rw [h1]
      rw [hea] at he
      refine Sl.G.append1 (EntryV.mk ⟨0, 0, zJob⟩ 10 a) Go.Proofs.YtcaojfapibkplaaGreatDoor.EntryV.el rfl rfl ap_71 rfl (.t (.t (.t .h))) (by omega) .h rfl rfl (fun p3 c4 => ?_)
      refine Sl.G.ro (Sl.RO.rd (Sl.RO.assign rfl)) rfl ?_
      refine Sl.G.nil ?_
      refine Sl.Post.blockN ?_
      refine Sl.Post.again ((a + 1, false, l ++ [EntryV.mk ⟨0, 0, zJob⟩ 10 a], p3, c4)) ?_ ?_ ?_ ?_ ?_
      rotate_left
      · omega
      · exact ⟨rfl, trivial⟩
      · exact ⟨rfl, rfl, rfl, rfl, rfl, rfl, trivial⟩
      · exact (.p (.t (.t .h)) (.p .h .o))
      refine ⟨by omega, by simp; omega, fun h => (by cases h), ?_⟩
      simpa using he
    | some fs =>
      have ⟨h1, a2, e2, h3, h6, h4, h5⟩ := getF_entry s x.toNat a fs hfs (a + 1) (by omega)
      refine Sl.Tr.seq ?_
      refine Sl.Tr.seq ?_
      refine Sl.Tr.region ?_
      refine Sl.G.ro (Sl.RO.rd (Sl.RO.move rfl)) rfl ?_
      refine Sl.G.ro (Sl.RO.rd (Sl.RO.nilCheck rfl)) rfl ?_
      refine Sl.G.ro (Sl.RO.rd (Sl.RO.fieldAddr rfl fo_88_1)) rfl ?_
      refine Sl.G.ro (Sl.RD.load1 rfl .h ly_3 rfl) rfl ?_
      refine Sl.G.ro (Sl.RO.rd (Sl.RO.move rfl)) rfl ?_
      refine Sl.G.ro (Sl.RO.rd (Sl.RO.lenStr rfl st_9)) rfl ?_
      refine Sl.G.ro (Sl.RO.rd (Sl.RO.bT (Sl.RO.lss rfl rfl) (by omega))) rfl ?_
      refine Sl.G.nil ?_
      refine Sl.Post.thenN ?_
      refine Sl.Tr.condT rfl ?_
      refine Sl.Tr.skip ?_
      refine Sl.Post.thenN ?_
      refine Sl.Tr.block ?_
      refine Sl.Tr.seq ?_
      refine Sl.Tr.region ?_
      refine Sl.G.ro (Sl.RO.rd (Sl.RO.move rfl)) rfl ?_
      refine Sl.G.ro (Sl.RO.rd (Sl.RO.nilCheck rfl)) rfl ?_
      refine Sl.G.ro (Sl.RO.rd (Sl.RO.fieldAddr rfl fo_88_1)) rfl ?_
      refine Sl.G.ro (Sl.RD.load1 rfl .h ly_3 rfl) rfl ?_
      refine Sl.G.ro (Sl.RO.rd (Sl.RO.build pl_82 zv_82 rfl rfl)) rfl ?_
      refine Sl.G.alloc zv_82 rfl (fun b5 => ?_)
      refine Sl.G.store rfl rfl rfl rfl ly_82 rfl .h rfl ?_
      refine Sl.G.nil ?_
      refine Sl.Post.thenN ?_
      refine Sl.Tr.seq ?_
      refine Sl.Tr.region ?_
      refine Sl.G.ro (Sl.RO.rd (Sl.RO.move rfl)) rfl ?_
      refine Sl.G.ro (Sl.RO.rd (Sl.RO.move rfl)) rfl ?_
      refine Sl.G.ro (Sl.RO.rd (Sl.RO.nilCheck rfl)) rfl ?_
      refine Sl.G.ro (Sl.RO.rd (Sl.RO.fieldAddr rfl fo_88_1)) rfl ?_
      refine Sl.G.ro (Sl.RD.load1 rfl (.t .h) ly_3 rfl) rfl ?_
      refine Sl.G.ro (Sl.RO.rd (Sl.RO.indexStrI rfl rfl st_9 hx (by omega))) rfl ?_
      refine Sl.G.ro (Sl.RO.rd (Sl.RO.convI64 rfl ik_5 ik_3 (by omega))) rfl ?_
      refine Sl.G.ro (Sl.RO.rd (Sl.RO.fieldAddr rfl fo_82_0)) rfl ?_
      refine Sl.G.ro (Sl.RO.rd (Sl.RO.fieldAddr rfl fo_80_0)) rfl ?_
      refine Sl.G.store rfl rfl rfl rfl ly_3 rfl .h rfl ?_
      refine Sl.G.nil ?_
      refine Sl.Post.thenN ?_
      refine Sl.Tr.seq ?_
      refine Sl.Tr.region ?_
      refine Sl.G.ro (Sl.RO.rd (Sl.RO.move rfl)) rfl ?_
      refine Sl.G.ro (Sl.RO.rd (Sl.RO.nilCheck rfl)) rfl ?_
      refine Sl.G.ro (Sl.RO.rd (Sl.RO.fieldAddr rfl fo_88_1)) rfl ?_
      refine Sl.G.ro (Sl.RD.load1 rfl (.t .h) ly_3 rfl) rfl ?_
      refine Sl.G.ro (Sl.RO.rd (Sl.RO.addI rfl rfl (by omega))) rfl ?_
      refine Sl.G.ro (Sl.RO.rd (Sl.RO.nilCheck rfl)) rfl ?_
      refine Sl.G.ro (Sl.RO.rd (Sl.RO.fieldAddr rfl fo_88_1)) rfl ?_
      refine Sl.G.store rfl rfl rfl rfl ly_3 rfl (.t .h) rfl ?_
      refine Sl.G.nil ?_
      refine Sl.Post.thenN ?_
      refine Sl.Tr.seq ?_
      refine Sl.Tr.region ?_
      refine Sl.G.ro (Sl.RO.rd (Sl.RO.fieldAddr rfl fo_82_0)) rfl ?_
      refine Sl.G.call rfl rfl .n (.c .n) .n (fun G' hle hhas => Go.Proofs.YtcaojfapibkplaaGreatDoor.wire_fields (hv := hhas _ (Sl.memAt 0 rfl)) ..) rfl (fun v K hR => ?_)
      refine Sl.G.ro (Sl.RO.rd (Sl.RO.move rfl)) rfl ?_
      rw [hfs] at hR
      obtain ⟨p, c, rfl, rfl⟩ := hR
      refine Sl.G.app (.c .n) ?_
      refine Sl.G.ro (Sl.RO.rd (Sl.RO.extractL rfl rfl)) rfl ?_
      refine Sl.G.ro (Sl.RO.rd (Sl.RO.extractL rfl rfl)) rfl ?_
      refine Sl.G.ro (Sl.RO.rd (Sl.RO.assign rfl)) rfl ?_
      refine Sl.G.ro (Sl.RO.rd (Sl.RO.assign rfl)) rfl ?_
      refine Sl.G.nil ?_
      refine Sl.Post.thenN ?_
      refine Sl.Tr.seq ?_
      refine Sl.Tr.region ?_
      refine Sl.G.ro (Sl.RO.rd (Sl.RO.move rfl)) rfl ?_
      refine Sl.G.ro (Sl.RO.rd (Sl.RO.move rfl)) rfl ?_
      skip
      obtain ⟨f1, f2, f3, f4⟩ := fieldsOf_facts _ _ hfs
      have hz : ∀ f ∈ fs, (EntryV.cells ⟨⟨x.toNat, 0, zJob⟩, 0, a⟩)[f.1]? = some (.int .i64 0) := by
        intro f hf
        obtain ⟨g1, g2⟩ := f1 f hf
        generalize f.1 = o at g1 g2
        match o, g1, g2 with
        | 1, _, _ | 2, _, _ | 3, _, _ | 4, _, _ | 5, _, _ | 6, _, _ | 7, _, _ | 8, _, _ | 9, _, _ => rfl
      have hea : entryAt s x a = if totF fs > s.length - (a + 1) then (⟨⟨0, 0, zJob⟩, 11, a⟩, s.length) else (⟨actAt s x.toNat (a + 1), 0, a⟩, a + 1 + totF fs) := by
        unfold entryAt; rw [h1]
      rw [hea] at he
      by_cases hnil : fs = []
      · subst hnil
        have hk5 : (x.toNat : Int) = 5 := by
          unfold fieldsOf at hfs
          split at hfs
          · cases hfs
          · split at hfs
            · cases hfs
            · split at hfs
              · cases hfs
              · split at hfs
                · assumption
                · cases hfs
        rw [hk5, if_neg (by simp [totF])] at he
        refine Sl.G.call rfl rfl .n (.c (.c .n)) .n (fun G' hle hhas => reader_get_nil  ..) rfl (fun v K hR => ?_)
        obtain ⟨rfl, rfl⟩ := hR
        refine Sl.G.app .n ?_
        refine Sl.G.nil ?_
        refine Sl.Post.thenN ?_
        refine Sl.Tr.seq ?_
        refine Sl.Tr.block ?_
        refine Sl.Tr.seq ?_
        refine Sl.Tr.region ?_
        refine Sl.G.ro (Sl.RO.rd (Sl.RO.move rfl)) rfl ?_
        refine Sl.G.ro (Sl.RO.rd (Sl.RO.notL (c := false) rfl rfl)) rfl ?_
        refine Sl.G.ro (Sl.RO.rd (Sl.RO.assign rfl)) rfl ?_
        refine Sl.G.nil ?_
        refine Sl.Post.thenN ?_
        refine Sl.Tr.condF rfl ?_
        refine Sl.Tr.seq ?_
        refine Sl.Tr.region ?_
        refine Sl.G.ro (Sl.RO.rd (Sl.RO.move rfl)) rfl ?_
        refine Sl.G.ro (Sl.RO.rd (Sl.RO.nilCheck rfl)) rfl ?_
        refine Sl.G.ro (Sl.RO.rd (Sl.RO.fieldAddr rfl fo_88_2)) rfl ?_
        refine Sl.G.ro (Sl.RD.load1 rfl (.t (.t .h)) ly_4 rfl) rfl ?_
        refine Sl.G.ro (Sl.RO.rd (Sl.RO.assign rfl)) rfl ?_
        refine Sl.G.nil ?_
        refine Sl.Post.thenN ?_
        refine Sl.Tr.condF rfl ?_
        refine Sl.Tr.skip ?_
        refine Sl.Post.blockN ?_
        refine Sl.Post.thenN ?_
        refine Sl.Tr.region ?_
        refine Sl.G.ro (Sl.RO.rd (Sl.RO.move rfl)) rfl ?_
        refine Sl.G.ro (Sl.RD.load rfl (.t .h) ly_82 rfl) rfl ?_
        refine Sl.G.buildSlice ap_71 rfl rfl rfl rfl rfl (fun b6 => ?_)
        refine Sl.G.append1 (EntryV.mk ⟨x.toNat, 0, zJob⟩ 0 a) Go.Proofs.YtcaojfapibkplaaGreatDoor.EntryV.el rfl rfl ap_71 rfl (.t (.t (.t (.t .h)))) (by omega) .h rfl rfl (fun p7 c8 => ?_)
        refine Sl.G.ro (Sl.RO.rd (Sl.RO.assign rfl)) rfl ?_
        refine Sl.G.nil ?_
        refine Sl.Post.blockN ?_
        refine Sl.Post.again ((a + 1, false, l ++ [EntryV.mk ⟨x.toNat, 0, zJob⟩ 0 a], p7, c8)) ?_ ?_ ?_ ?_ ?_
        rotate_left
        · omega
        · exact ⟨rfl, trivial⟩
        · exact ⟨rfl, rfl, rfl, rfl, rfl, rfl, trivial⟩
        · exact (.p (.t (.t (.t .h))) (.p .h .o))
        refine ⟨by omega, by simp; omega, fun h => (by cases h), ?_⟩
        rw [hk5]
        have hz5 : actAt s 5 (a + 1) = ⟨5, 0, zJob⟩ := rfl
        rw [hz5] at he
        simpa [totF] using he
      · by_cases hd : totF fs > s.length - (a + 1)
        · rw [if_pos hd, ← h6] at he
          rw [decide_eq_true hd] at h4
          refine Sl.G.call rfl rfl .n (.c (.c .n)) (.p (.t (.t .h)) (.p (.t .h) .n)) (fun G' hle hhas => reader_get2 (b := b5) (a := a + 1) (sh := false) (hg := h4) (hv := hhas _ (Sl.memAt 0 rfl)) (hs := (by assumption)) (ha := (by assumption)) (hz := (by assumption)) (hd := (by assumption)) (hn := (by assumption)) (hfl := (by assumption)) (hfl2 := (by assumption)) ..) rfl (fun v K hR => ?_)
          obtain ⟨rfl, rfl⟩ := hR
          refine Sl.G.app (.c (.c .n)) ?_
          refine Sl.G.nil ?_
          refine Sl.Post.thenN ?_
          refine Sl.Tr.seq ?_
          refine Sl.Tr.block ?_
          refine Sl.Tr.seq ?_
          refine Sl.Tr.region ?_
          refine Sl.G.ro (Sl.RO.rd (Sl.RO.move rfl)) rfl ?_
          refine Sl.G.ro (Sl.RO.rd (Sl.RO.notL (c := false) rfl rfl)) rfl ?_
          refine Sl.G.ro (Sl.RO.rd (Sl.RO.assign rfl)) rfl ?_
          refine Sl.G.nil ?_
          refine Sl.Post.thenN ?_
          refine Sl.Tr.condF rfl ?_
          refine Sl.Tr.seq ?_
          refine Sl.Tr.region ?_
          refine Sl.G.ro (Sl.RO.rd (Sl.RO.move rfl)) rfl ?_
          refine Sl.G.ro (Sl.RO.rd (Sl.RO.nilCheck rfl)) rfl ?_
          refine Sl.G.ro (Sl.RO.rd (Sl.RO.fieldAddr rfl fo_88_2)) rfl ?_
          refine Sl.G.ro (Sl.RD.load1 rfl .h ly_4 rfl) rfl ?_
          refine Sl.G.ro (Sl.RO.rd (Sl.RO.assign rfl)) rfl ?_
          refine Sl.G.nil ?_
          refine Sl.Post.thenN ?_
          refine Sl.Tr.condT rfl ?_
          refine Sl.Tr.seq ?_
          refine Sl.Tr.region ?_
          refine Sl.G.ro (Sl.RO.rd (Sl.RO.build pl_80 zv_80 rfl rfl)) rfl ?_
          refine Sl.G.ro (Sl.RO.rd (Sl.RO.fieldAddr rfl fo_82_0)) rfl ?_
          refine Sl.G.store rfl rfl rfl rfl ly_80 rfl (.t .h) rfl ?_
          refine Sl.G.ro (Sl.RO.rd (Sl.RO.fieldAddr rfl fo_82_1)) rfl ?_
          refine Sl.G.store rfl rfl rfl rfl ly_24 rfl (.t .h) rfl ?_
          refine Sl.G.nil ?_
          refine Sl.Post.thenN ?_
          refine Sl.Tr.region ?_
          refine Sl.G.ro (Sl.RO.rd (Sl.RO.move rfl)) rfl ?_
          refine Sl.G.ro (Sl.RO.rd (Sl.RO.move rfl)) rfl ?_
          refine Sl.G.ro (Sl.RO.rd (Sl.RO.lenStr rfl st_9)) rfl ?_
          refine Sl.G.ro (Sl.RO.rd (Sl.RO.nilCheck rfl)) rfl ?_
          refine Sl.G.ro (Sl.RO.rd (Sl.RO.fieldAddr rfl fo_88_1)) rfl ?_
          refine Sl.G.store rfl rfl rfl rfl ly_3 rfl .h rfl ?_
          refine Sl.G.nil ?_
          refine Sl.Post.blockN ?_
          refine Sl.Post.thenN ?_
          refine Sl.Tr.region ?_
          refine Sl.G.ro (Sl.RO.rd (Sl.RO.move rfl)) rfl ?_
          refine Sl.G.ro (Sl.RD.load rfl (.t .h) ly_82 rfl) rfl ?_
          refine Sl.G.buildSlice ap_71 rfl rfl rfl rfl rfl (fun b9 => ?_)
          refine Sl.G.append1 (EntryV.mk ⟨0, 0, zJob⟩ 11 e2.at_) Go.Proofs.YtcaojfapibkplaaGreatDoor.EntryV.el rfl rfl ap_71 rfl (.t (.t (.t (.t .h)))) (by omega) .h rfl rfl (fun p10 c11 => ?_)
          refine Sl.G.ro (Sl.RO.rd (Sl.RO.assign rfl)) rfl ?_
          refine Sl.G.nil ?_
          refine Sl.Post.blockN ?_
          refine Sl.Post.again ((s.length, true, l ++ [EntryV.mk ⟨0, 0, zJob⟩ 11 e2.at_], p10, c11)) ?_ ?_ ?_ ?_ ?_
          rotate_left
          · omega
          · exact ⟨rfl, trivial⟩
          · exact ⟨rfl, rfl, rfl, rfl, rfl, rfl, trivial⟩
          · exact (.p (.t .h) (.p .h .o))
          refine ⟨by omega, by simp; omega, fun h => rfl, ?_⟩
          simpa using he
        · obtain ⟨h7, h8⟩ := h5 hd
          rw [if_neg hd, ← h8, ← h7] at he
          rw [decide_eq_false hd] at h4
          refine Sl.G.call rfl rfl .n (.c (.c .n)) (.p (.t (.t .h)) (.p (.t .h) .n)) (fun G' hle hhas => reader_get2 (b := b5) (a := a + 1) (sh := false) (hg := h4) (hv := hhas _ (Sl.memAt 0 rfl)) (hs := (by assumption)) (ha := (by assumption)) (hz := (by assumption)) (hd := (by assumption)) (hn := (by assumption)) (hfl := (by assumption)) (hfl2 := (by assumption)) ..) rfl (fun v K hR => ?_)
          obtain ⟨rfl, rfl⟩ := hR
          refine Sl.G.app (.c (.c .n)) ?_
          refine Sl.G.nil ?_
          refine Sl.Post.thenN ?_
          refine Sl.Tr.seq ?_
          refine Sl.Tr.block ?_
          refine Sl.Tr.seq ?_
          refine Sl.Tr.region ?_
          refine Sl.G.ro (Sl.RO.rd (Sl.RO.move rfl)) rfl ?_
          refine Sl.G.ro (Sl.RO.rd (Sl.RO.notL (c := false) rfl rfl)) rfl ?_
          refine Sl.G.ro (Sl.RO.rd (Sl.RO.assign rfl)) rfl ?_
          refine Sl.G.nil ?_
          refine Sl.Post.thenN ?_
          refine Sl.Tr.condF rfl ?_
          refine Sl.Tr.seq ?_
          refine Sl.Tr.region ?_
          refine Sl.G.ro (Sl.RO.rd (Sl.RO.move rfl)) rfl ?_
          refine Sl.G.ro (Sl.RO.rd (Sl.RO.nilCheck rfl)) rfl ?_
          refine Sl.G.ro (Sl.RO.rd (Sl.RO.fieldAddr rfl fo_88_2)) rfl ?_
          refine Sl.G.ro (Sl.RD.load1 rfl .h ly_4 rfl) rfl ?_
          refine Sl.G.ro (Sl.RO.rd (Sl.RO.assign rfl)) rfl ?_
          refine Sl.G.nil ?_
          refine Sl.Post.thenN ?_
          refine Sl.Tr.condF rfl ?_
          refine Sl.Tr.skip ?_
          refine Sl.Post.blockN ?_
          refine Sl.Post.thenN ?_
          refine Sl.Tr.region ?_
          refine Sl.G.ro (Sl.RO.rd (Sl.RO.move rfl)) rfl ?_
          refine Sl.G.ro (Sl.RD.load rfl (.t .h) ly_82 rfl) rfl ?_
          refine Sl.G.buildSlice ap_71 rfl rfl rfl rfl rfl (fun b12 => ?_)
          refine Sl.G.append1 (e2) Go.Proofs.YtcaojfapibkplaaGreatDoor.EntryV.el rfl rfl ap_71 rfl (.t (.t (.t (.t .h)))) (by omega) .h rfl rfl (fun p13 c14 => ?_)
          refine Sl.G.ro (Sl.RO.rd (Sl.RO.assign rfl)) rfl ?_
          refine Sl.G.nil ?_
          refine Sl.Post.blockN ?_
          refine Sl.Post.again ((a2, false, l ++ [e2], p13, c14)) ?_ ?_ ?_ ?_ ?_
          rotate_left
          · omega
          · exact ⟨rfl, trivial⟩
          · exact ⟨rfl, rfl, rfl, rfl, rfl, rfl, trivial⟩
          · exact (.p (.t .h) (.p .h .o))
          refine ⟨by omega, by simp; omega, fun h => (by cases h), ?_⟩
          simpa using he
  · obtain rfl : a = s.length := by omega
    have : entriesF s (s.length - s.length + 1) s.length = [] := by rw [entriesF, List.getElem?_eq_none (Nat.le_refl _)]
    rw [this, List.append_nil] at he
    subst he
    refine Sl.Tr.seq ?_
    refine Sl.Tr.seq ?_
    refine Sl.Tr.region ?_
    refine Sl.G.ro (Sl.RO.rd (Sl.RO.move rfl)) rfl ?_
    refine Sl.G.ro (Sl.RO.rd (Sl.RO.nilCheck rfl)) rfl ?_
    refine Sl.G.ro (Sl.RO.rd (Sl.RO.fieldAddr rfl fo_88_1)) rfl ?_
    refine Sl.G.ro (Sl.RD.load1 rfl .h ly_3 rfl) rfl ?_
    refine Sl.G.ro (Sl.RO.rd (Sl.RO.move rfl)) rfl ?_
    refine Sl.G.ro (Sl.RO.rd (Sl.RO.lenStr rfl st_9)) rfl ?_
    refine Sl.G.ro (Sl.RO.rd (Sl.RO.bF (Sl.RO.lss rfl rfl) (by omega))) rfl ?_
    refine Sl.G.nil ?_
    refine Sl.Post.thenN ?_
    refine Sl.Tr.condF rfl ?_
    refine Sl.Tr.exit ?_
    refine Sl.Post.thenE ?_
    refine Sl.Post.thenE ?_
    refine Sl.Post.blockE ?_
    refine Sl.Post.thenN ?_
    refine Sl.Tr.seq ?_
    refine Sl.Tr.region ?_
    refine Sl.G.ro (Sl.RO.rd (Sl.RO.move rfl)) rfl ?_
    refine Sl.G.ro (Sl.RO.rd (Sl.RO.assign rfl)) rfl ?_
    refine Sl.G.nil ?_
    refine Sl.Post.thenN ?_
    refine Sl.Tr.ret ?_
    refine Sl.Post.fin rfl (.tmp rfl .nil) rfl (.p (.t .h) .n) ?_ (.inl rfl)
    exact ⟨_, _, rfl, rfl⟩
end Go.Proofs.YtcaojfapibkplaaGreatDoor
