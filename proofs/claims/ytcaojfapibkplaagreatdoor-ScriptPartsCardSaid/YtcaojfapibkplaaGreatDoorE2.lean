/- The engine, part 2: structs, slices, appending, maps, bytes and strings. -/
import Derived.OrdersHeld
import Derived.Test.YtcaojfapibkplaaGreatDoorE1
import Derived.Lib.Builder
import Derived.Lib.UnsafeStr
import Derived.Laws.IdiomStrings
import Derived.Laws.BytesArg
/- The engine: regions that draw, held by a condition on the world that the last operation may break. -/
namespace Go.Sl
open Go
variable {P : Program} {ops : Array Oper} {Q : Exit → Act → World → Prop} {md : Region.Mode} {S : World → Prop}

def depsOf (md : Region.Mode) (ops : Array Oper) (j : Nat) : List Nat := match ops[j]? with | some o => (o.after.toList.filter (Region.binds md)).map (·.on) | none => []
/-- Does operation j come behind all others? -/
def brk (md : Region.Mode) (ops : Array Oper) (j : Nat) : Bool :=
  (List.range ops.size).all fun i => Nat.beq i j || (depsOf md ops j).any fun k => Nat.beq k i || (depsOf md ops k).any fun m => Nat.beq m i
/-- What has come up stands behind nothing that hasn't. -/
def Closed (md : Region.Mode) (ops : Array Oper) (listed : Array Bool) : Prop :=
  ∀ k o, ops[k]? = some o → listed.getD k false = true → ∀ e ∈ o.after, Region.binds md e = true → listed.getD e.on false = true

def wpAnyZ (P : Program) (md : Region.Mode) (ops : Array Oper) (Q : Exit → Act → World → Prop) (S : World → Prop) : Nat → Array Bool → Act → World → Prop
  | 0, listed, a, w => Region.ready md ops listed = [] ∧ Q .normal a w
  | fuel + 1, listed, a, w =>
    (Region.ready md ops listed = [] → Q .normal a w) ∧
    ∀ i ∈ Region.ready md ops listed, wpOp P ops Q i (fun a' w' => (brk md ops i = true ∨ S w') ∧ wpAnyZ P md ops Q S fuel (listed.setIfInBounds i true) a' w') a w

theorem wpAny_of_Z : ∀ (fuel : Nat) (listed : Array Bool) (a : Act) (w : World), wpAnyZ P md ops Q S fuel listed a w → wpAny P md ops Q fuel listed a w
  | 0, _, _, _, h => h
  | fuel + 1, _, _, _, h => ⟨h.1, fun i hi => wpOp_mono (fun a' w' h' => wpAny_of_Z fuel _ a' w' h'.2) (h.2 i hi)⟩

theorem getD_set_mono {listed : Array Bool} {j k : Nat} (h : listed.getD k false = true) : (listed.setIfInBounds j true).getD k false = true := by
  by_cases hjk : j = k
  · subst hjk
    rcases Nat.lt_or_ge j listed.size with h' | h'
    · simp [h']
    · simp [Array.getElem?_eq_none h'] at h
  · rw [getD_set_ne false hjk]; exact h
theorem Closed.set {j : Nat} {listed : Array Bool} (hc : Closed md ops listed) (hj : j ∈ Region.ready md ops listed) : Closed md ops (listed.setIfInBounds j true) := by
  intro k o ho hk e he hb
  obtain ⟨_, oj, hoj, hall⟩ := mem_ready.1 hj
  by_cases hjk : j = k
  · subst hjk
    rw [hoj] at ho; cases ho
    exact getD_set_mono (hall e he hb)
  · rw [getD_set_ne false hjk] at hk
    exact getD_set_mono (hc k o ho hk e he hb)
theorem brk_not {i j : Nat} {listed : Array Bool} (hc : Closed md ops listed) (hi : i ∈ Region.ready md ops listed) (hj : j ∈ Region.ready md ops listed) (hne : j ≠ i) : brk md ops j = false := by
  cases hb : brk md ops j with
  | false => rfl
  | true =>
    obtain ⟨_, oj, hoj, hall⟩ := mem_ready.1 hj
    obtain ⟨hun, oi, hoi, _⟩ := mem_ready.1 hi
    have hnot : listed.getD i false = true → False := fun h2 => by
      rcases Nat.lt_or_ge i listed.size with h' | h'
      · simp [h'] at hun h2; rw [hun] at h2; cases h2
      · simp [Array.getElem?_eq_none h'] at h2
    have hlt : i < ops.size := by
      rcases Nat.lt_or_ge i ops.size with h | h
      · exact h
      · rw [Array.getElem?_eq_none h] at hoi; cases hoi
    unfold brk at hb
    simp only [List.all_eq_true, List.mem_range, Bool.or_eq_true, List.any_eq_true] at hb
    have hdeps : ∀ k, k ∈ depsOf md ops j → listed.getD k false = true := fun k hk => by
      unfold depsOf at hk
      rw [hoj] at hk
      simp only [List.mem_map, List.mem_filter] at hk
      obtain ⟨e, ⟨he, hbi⟩, rfl⟩ := hk
      exact hall e (by simpa using he) hbi
    rcases hb i hlt with h | ⟨k, hk, h | ⟨m, hm, h⟩⟩
    · exact absurd (Nat.eq_of_beq_eq_true h).symm hne
    · have := hdeps k hk
      rw [Nat.eq_of_beq_eq_true h] at this
      exact (hnot this).elim
    · have h1 := hdeps k hk
      unfold depsOf at hm
      cases hok : ops[k]? with
      | none => simp [hok] at hm
      | some ok =>
        simp only [hok, List.mem_map, List.mem_filter] at hm
        obtain ⟨e, ⟨he, hbi⟩, rfl⟩ := hm
        have := hc k ok hok h1 e (by simpa using he) hbi
        rw [Nat.eq_of_beq_eq_true h] at this
        exact (hnot this).elim

theorem wpAnyZ_first {i : Nat} {oi : Oper} {v : Value} (hi : ops[i]? = some oi) (hsel : ∀ (j : Nat) (o : Oper) cs b, ops[j]? = some o → o.op ≠ .select cs b)
    (hQ : ∀ c a w, Q (.panic c) (a.put oi.dst v) w → Q (.panic c) a w) :
    ∀ (fuel : Nat) (listed : Array Bool) (a : Act) (w : World),
      (∀ j oj, ops[j]? = some oj → j ≠ i → listed.getD j true = false → (∀ e ∈ oj.after, Region.binds md e = true → e.on ≠ i) → oi.apart ops oj = true) →
      Closed md ops listed → i ∈ Region.ready md ops listed → YieldsIf P ops S oi v a → S w →
      wpAnyZ P md ops Q S fuel (listed.setIfInBounds i true) (a.put oi.dst v) w → wpAnyZ P md ops Q S (fuel + 1) listed a w := by
  intro fuel
  induction fuel with
  | zero =>
    intro listed a w _ _ hr hy hS H
    refine ⟨fun h => (by rw [h] at hr; cases hr), fun j hj => ?_⟩
    by_cases hji : j = i
    · subst hji; exact hy.wpOp hi hS ⟨.inr hS, H⟩
    · have := ready_mono hj hji
      rw [H.1] at this
      cases this
  | succ fuel ih =>
    intro listed a w hfree hcl hr hy hS H
    refine ⟨fun h => (by rw [h] at hr; cases hr), fun j hj => ?_⟩
    by_cases hji : j = i
    · subst hji; exact hy.wpOp hi hS ⟨.inr hS, H⟩
    · have h1 := H.2 j (ready_mono hj hji)
      have hbj := brk_not hcl hr hj hji
      obtain ⟨hjun, oj, hoj, hall⟩ := mem_ready.1 hj
      have hnot : ∀ e ∈ oj.after, Region.binds md e = true → e.on ≠ i := fun e he hb heq => by
        have h1 := hall e he hb
        have h0 := (mem_ready.1 hr).1
        rw [heq] at h1
        rcases Nat.lt_or_ge i listed.size with h' | h'
        · simp [h'] at h0 h1; rw [h0] at h1; cases h1
        · simp [Array.getElem?_eq_none h'] at h1
      have h2 := wpOp_putIf hoj (hfree j oj hoj hji hjun hnot) (fun cs b => hsel i oi cs b hi) (fun cs b => hsel j oj cs b hoj) hQ hy h1
      have hfree' : ∀ k ok, ops[k]? = some ok → k ≠ i → (listed.setIfInBounds j true).getD k true = false →
          (∀ e ∈ ok.after, Region.binds md e = true → e.on ≠ i) → oi.apart ops ok = true := fun k ok hk hki hun hno => by
        refine hfree k ok hk hki ?_ hno
        by_cases hjk : j = k
        · subst hjk; exact hjun
        · rw [getD_set_ne true hjk] at hun; exact hun
      refine wpOp_mono (fun a' w' h3 => ?_) h2
      have hS' : S w' := by
        rcases h3.2.1 with hb | hb
        · rw [hbj] at hb; cases hb
        · exact hb
      refine ⟨.inr hS', ih (listed.setIfInBounds j true) a' w' hfree' (hcl.set hj) (ready_mono hr (Ne.symm hji)) h3.1 hS' ?_⟩
      rw [Array.setIfInBounds_comm _ _ hji]
      exact h3.2.2

theorem wpAnyZ_take {i : Nat} {oi : Oper} {v : Value} {fuel : Nat} {listed : Array Bool} {a : Act} {w : World} (hi : ops[i]? = some oi)
    (hs : Region.noSelect ops = true) (hf : Region.free md ops listed i = true) (hr : (Region.ready md ops listed).contains i = true) (hcl : Closed md ops listed)
    (hQ : ∀ c a w, Q (.panic c) (a.put oi.dst v) w → Q (.panic c) a w) (hy : YieldsIf P ops S oi v a) (hS : S w)
    (h : wpAnyZ P md ops Q S fuel (listed.setIfInBounds i true) (a.put oi.dst v) w) : wpAnyZ P md ops Q S (fuel + 1) listed a w :=
  wpAnyZ_first hi (Region.noSelect_spec hs) hQ fuel listed a w (Region.free_spec hi hf) hcl (by simpa using hr) hy hS h

theorem wpAnyZ_all {rs : List Nat} {fuel : Nat} {listed : Array Bool} {a : Act} {w : World} (hr : Region.ready md ops listed = rs) (hne : rs ≠ [])
    (h : ∀ i ∈ rs, wpOp P ops Q i (fun a' w' => (brk md ops i = true ∨ S w') ∧ wpAnyZ P md ops Q S fuel (listed.setIfInBounds i true) a' w') a w) : wpAnyZ P md ops Q S (fuel + 1) listed a w :=
  ⟨fun h0 => absurd (hr ▸ h0) hne, hr ▸ h⟩

theorem wpAnyZ_done {listed : Array Bool} {a : Act} {w : World} (hr : Region.ready md ops listed = []) (h : Q .normal a w) :
    ∀ fuel, wpAnyZ P md ops Q S fuel listed a w
  | 0 => ⟨hr, h⟩
  | _ + 1 => ⟨fun _ => h, by rw [hr]; simp⟩

/-- Behind the last one nothing is asked of the world. -/
theorem wpAnyZ_last {S S' : World → Prop} {i fuel : Nat} {listed : Array Bool} {a : Act} {w : World} (hr : Region.ready md ops listed = [i]) (hb : brk md ops i = true) (hn : Region.ready md ops (listed.setIfInBounds i true) = [])
    (h : wpAnyZ P md ops Q S' (fuel + 1) listed a w) : wpAnyZ P md ops Q S (fuel + 1) listed a w := by
  refine wpAnyZ_all hr (by simp) (fun j hj => ?_)
  simp only [List.mem_singleton] at hj
  subst hj
  have := h.2 j (by rw [hr]; simp)
  refine wpOp_mono (fun a' w' h3 => ⟨.inl hb, ?_⟩) this
  refine wpAnyZ_done hn ?_ fuel
  have h4 := h3.2
  cases fuel with
  | zero => exact h4.2
  | succ f => exact h4.1 hn

theorem wp_region_Z {id : Nat} {a : Act} {w : World} (hm : P.follows .mixedOrders = true)
    (h : wpAnyZ P .any ops Q S ops.size (Array.replicate ops.size false) a { w with drawn := w.drawn + 1 }) : (Code.region id ops true).wp P Q a w :=
  wp_region_any hm (wpAny_of_Z _ _ _ _ h)
end Go.Sl
/- The engine, part 7: a region that draws its order. -/
namespace Go.Sl
open Go

variable {P : Program} {n : Nat} {d : List Deferred} {F : Frm} {κ : List (Nat × Value)} {H : List Assn}
variable {Q : Exit → Act → World → Prop}

def NP (Q : Exit → Act → World → Prop) : Exit → Act → World → Prop
  | .panic _, _, _ => False
  | e, a, w => Q e a w

/-- From these slots and this memory on, whatever order the tape tells; the listed ones are done. -/
def GD (P : Program) (ops : List Oper) (Q : Exit → Act → World → Prop) (n : Nat) (d : List Deferred) (F : Frm) (fuel : Nat) (listed : List Bool) (κ : List (Nat × Value)) (H : List Assn) : Prop :=
  ∀ a w, Fr n κ d a → Sat H F w → wpAnyZ P .any ops.toArray (NP Q) F.In fuel listed.toArray a w

theorem Tr.draw {id : Nat} {l : List Oper} {fuel : Nat} {listed : List Bool} (hm : P.follows .mixedOrders = true) (hl : l.length = fuel) (hls : List.replicate fuel false = listed) (h : GD P l Q n d F fuel listed κ H) : Tr P (.region id l.toArray true) Q n d F κ H := fun a w hf hs => by
  subst hl hls
  have h1 : (Code.region id l.toArray true).wp P (NP Q) a w := by
    refine wp_region_Z (S := F.In) hm ?_
    have := h a { w with drawn := w.drawn + 1 } hf hs.drawn
    simpa using this
  exact wp_mono h1 fun e a w h => by cases e <;> first | exact h | exact h.elim

def setL : List Bool → Nat → Option (List Bool)
  | _ :: l, 0 => some (true :: l)
  | b :: l, k + 1 => match setL l k with | some r => some (b :: r) | none => none
  | [], _ => none
theorem setL_spec : ∀ {l : List Bool} {k : Nat} {r : List Bool}, setL l k = some r → l.set k true = r
  | _ :: l, 0, r, h => by simp [setL] at h; simp [h]
  | b :: l, k + 1, r, h => by
    simp only [setL] at h
    cases hs : setL l k with
    | none => simp [hs] at h
    | some r' => simp [hs] at h; subst h; simp [setL_spec hs]
  | [], _, _, h => by simp [setL] at h

/-! the side conditions, by lists alone, so that they reckon -/
def opnds : Op → List Operand
  | .alloc _ | .ready _ | .waits _ => []
  | .move x | .assign x | .box _ x | .load _ x | .nilCheck x | .unOp _ _ x | .convert _ _ x | .sliceToArrayPointer _ x | .makeInterface _ x
  | .makeChan _ x | .fieldAddr _ x _ | .field _ x _ | .range _ x | .next x _ | .entry x | .typeAssert x _ _ _ | .extract x _ | .panic x | .recv _ x _ => [x]
  | .pick c a b => [c, a, b]
  | .build _ ps | .buildSlice _ _ ps => ps.toList.map (·.2)
  | .store _ a v | .binOp _ _ a v _ | .makeSlice _ a v | .indexAddr _ a v | .index _ a v | .lookup _ a v _ | .mapEntry _ a v | .send a v => [a, v]
  | .makeFunc _ first captured => first.toList ++ captured.toList
  | .makeMap _ r => r.toList
  | .slice _ x l h m => [x] ++ l.toList ++ h.toList ++ m.toList
  | .mapUpdate _ m k v | .entryStore _ m k v | .insert _ m k v => [m, k, v]
  | .call c | .go c | .defer c => (match c.callee with | .value f => [f] | .invoke r _ => [r] | .builtin _ => []) ++ c.args.toList
  | .select cs _ => (cs.flatMap fun c => #[c.chan] ++ c.send.toArray).toList
theorem opnds_eq (op : Op) : op.operands.toList = opnds op := by
  cases op <;> simp [Op.operands, opnds, Call.operands]
  all_goals (rename_i c; cases c.callee <;> simp)
def isSel : Op → Bool
  | .select .. => true
  | _ => false
def tmpsOf : List Operand → List Nat
  | [] => []
  | .tmp t :: r => t :: tmpsOf r
  | _ :: r => tmpsOf r
theorem tmpsOf_eq : ∀ l : List Operand, (l.filterMap fun | .tmp t => some t | _ => none) = tmpsOf l
  | [] => rfl
  | x :: r => by cases x <;> simp [tmpsOf, tmpsOf_eq r]
def dstAt : List Oper → Nat → List Nat
  | [], _ => []
  | o :: _, 0 => o.dst.toList
  | _ :: r, k + 1 => dstAt r k
theorem dstAt_eq : ∀ (l : List Oper) (k : Nat), ((l[k]?).bind (·.dst)).toList = dstAt l k
  | [], k => by simp [dstAt]
  | o :: r, 0 => by simp [dstAt]
  | o :: r, k + 1 => by simp [dstAt, dstAt_eq r k]
def lookL (ops : List Oper) (o : Oper) : List Nat := tmpsOf (opnds o.op) ++ (match o.guard with | some (g, _) => dstAt ops g | none => [])
theorem lookL_eq (ops : List Oper) (o : Oper) : o.looksAt ops.toArray = lookL ops o := by
  unfold Oper.looksAt lookL
  rw [← tmpsOf_eq, ← opnds_eq]
  congr 1
  cases o.guard with
  | none => rfl
  | some g => simp only [List.getElem?_toArray]; exact dstAt_eq ops g.1
def memN (x : Nat) : List Nat → Bool
  | [] => false
  | y :: r => bif Nat.beq x y then true else memN x r
theorem memN_eq (x : Nat) : ∀ l, l.contains x = memN x l
  | [] => rfl
  | y :: r => by
    simp only [List.contains_cons, memN, memN_eq x r]
    by_cases h : x = y
    · subst h; simp
    · have h1 : Nat.beq x y = false := by
        cases hb : Nat.beq x y with
        | false => rfl
        | true => exact absurd (Nat.eq_of_beq_eq_true hb) h
      have h2 : (x == y) = false := by simpa using h
      simp [h1, h2]
def sameD : Option Nat → Option Nat → Bool
  | some a, some b => Nat.beq a b
  | none, none => true
  | _, _ => false
theorem sameD_eq (a b : Option Nat) : (a != b) = !(sameD a b) := by
  cases a <;> cases b <;> simp [sameD]
  rename_i x y
  by_cases h : x = y
  · subst h; simp
  · have h1 : Nat.beq x y = false := by
      cases hb : Nat.beq x y with
      | false => rfl
      | true => exact absurd (Nat.eq_of_beq_eq_true hb) h
    simp [h1, h]
def apartL (ops : List Oper) (x y : Oper) : Bool :=
  (match x.dst with | some d => !(memN d (lookL ops y)) && !(sameD y.dst (some d)) | none => true) &&
  (match y.dst with | some d => !(memN d (lookL ops x)) | none => true)
theorem apartL_eq (ops : List Oper) (x y : Oper) : x.apart ops.toArray y = apartL ops x y := by
  unfold Oper.apart apartL
  simp only [lookL_eq, memN_eq, sameD_eq]
  cases x.dst <;> cases y.dst <;> rfl
def bindE (e : Edge) : Bool := match e.ground with | .textOnly _ | .gcOnly _ => false | _ => true
theorem bindE_eq (e : Edge) : Region.binds .any e = bindE e := by
  unfold Region.binds bindE
  cases e.ground <;> rfl
def getB : List Bool → Nat → Bool → Bool
  | [], _, d => d
  | b :: _, 0, _ => b
  | _ :: r, k + 1, d => getB r k d
theorem getB_eq : ∀ (l : List Bool) (k : Nat) (d : Bool), l.toArray.getD k d = getB l k d := by
  intro l k d
  have : l.toArray.getD k d = (l[k]?).getD d := by simp [Array.getD_eq_getD_getElem?]
  rw [this]
  induction l generalizing k with
  | nil => simp [getB]
  | cons b r ih => cases k with
    | zero => simp [getB]
    | succ k => simp only [List.getElem?_cons_succ, getB]; exact ih k (by simp [Array.getD_eq_getD_getElem?])
def okEdges (listed : List Bool) : List Edge → Bool
  | [] => true
  | e :: r => bif bindE e then (bif getB listed e.on false then okEdges listed r else false) else okEdges listed r
theorem okEdges_eq (listed : List Bool) : ∀ l : List Edge, (l.all fun e => !Region.binds .any e || listed.toArray.getD e.on false) = okEdges listed l
  | [] => rfl
  | e :: r => by
    have ih := okEdges_eq listed r
    simp only [List.all_cons, okEdges]
    rw [ih]
    simp only [bindE_eq, getB_eq]
    cases bindE e <;> cases getB listed e.on false <;> simp
def readyAt (listed : List Bool) : List Oper → Nat → Bool
  | [], _ => false
  | o :: _, 0 => okEdges listed o.after.toList
  | _ :: r, k + 1 => readyAt listed r k
theorem readyAt_eq (listed : List Bool) : ∀ (ops : List Oper) (i : Nat), ((ops[i]?).map (·.after.all fun e => !Region.binds .any e || listed.toArray.getD e.on false)).getD false = readyAt listed ops i
  | [], i => by simp [readyAt]
  | o :: r, 0 => by
    simp only [List.getElem?_cons_zero, Option.map_some, Option.getD_some, readyAt]
    rw [← okEdges_eq, Array.all_toList]
  | o :: r, i + 1 => by simp only [List.getElem?_cons_succ, readyAt]; exact readyAt_eq listed r i
def readyL (ops : List Oper) (listed : List Bool) (i : Nat) : Bool := bif getB listed i true then false else readyAt listed ops i
def readys (ops : List Oper) (listed : List Bool) : List Nat := (List.range ops.length).filter (readyL ops listed)
theorem readys_eq (ops : List Oper) (listed : List Bool) : Region.ready .any ops.toArray listed.toArray = readys ops listed := by
  unfold Region.ready readys
  simp only [List.size_toArray]
  congr 1
  funext i
  have h := readyAt_eq listed ops i
  rw [List.getElem?_toArray, h, getB_eq]
  simp only [readyL]
  cases getB listed i true <;> simp
def freeL (ops : List Oper) (listed : List Bool) (i : Nat) (oi : Oper) : List Oper → Nat → Bool
  | [], _ => true
  | o :: r, j => bif (bif Nat.beq j i then true else bif getB listed j true then true else bif memN i ((o.after.toList.filter bindE).map (·.on)) then true else apartL ops oi o) then freeL ops listed i oi r (j + 1) else false
theorem freeL_spec (ops : List Oper) (listed : List Bool) (i : Nat) (oi : Oper) : ∀ (r : List Oper) (j : Nat), freeL ops listed i oi r j = true → ∀ k o, r[k]? = some o →
    (j + k == i || listed.toArray.getD (j + k) true || (o.after.any (fun e => Region.binds .any e && e.on == i) || oi.apart ops.toArray o)) = true
  | [], j, _, k, o, h => by simp at h
  | p :: r, j, hf, k, o, h => by
    simp only [freeL] at hf
    cases hc : (bif Nat.beq j i then true else bif getB listed j true then true else bif memN i ((p.after.toList.filter bindE).map (·.on)) then true else apartL ops oi p) with
    | false => rw [hc] at hf; cases hf
    | true =>
      rw [hc, cond_true] at hf
      cases k with
      | succ k =>
        simp only [List.getElem?_cons_succ] at h
        have := freeL_spec ops listed i oi r (j + 1) hf k o h
        rwa [show j + 1 + k = j + (k + 1) from by omega] at this
      | zero =>
        simp only [List.getElem?_cons_zero, Option.some.injEq] at h
        subst h
        simp only [Nat.add_zero, getB_eq, apartL_eq]
        cases h1 : Nat.beq j i with
        | true => have := Nat.eq_of_beq_eq_true h1; subst this; simp
        | false =>
          cases h2 : getB listed j true with
          | true => simp
          | false =>
            cases h3 : memN i ((p.after.toList.filter bindE).map (·.on)) with
            | true =>
              rw [← memN_eq] at h3
              simp only [List.contains_iff_mem, List.mem_map, List.mem_filter] at h3
              obtain ⟨e, ⟨he, hb⟩, hon⟩ := h3
              have : p.after.any (fun e => Region.binds .any e && e.on == i) = true := by
                rw [Array.any_eq_true']
                exact ⟨e, by simpa using he, by simp [bindE_eq, hb, hon]⟩
              simp [this]
            | false =>
              simp only [h1, h2, h3, cond_false] at hc
              simp [hc]
def noSelL : List Oper → Bool
  | [] => true
  | o :: r => bif isSel o.op then false else noSelL r
theorem noSelL_spec : ∀ ops : List Oper, noSelL ops = true → Region.noSelect ops.toArray = true := by
  intro ops h
  unfold Region.noSelect
  rw [← Array.all_toList]
  simp only [List.all_eq_true]
  intro o ho
  have : ∀ l : List Oper, noSelL l = true → ∀ o ∈ l, isSel o.op = false := by
    intro l
    induction l with
    | nil => intro _ o ho; cases ho
    | cons p r ih =>
      intro h o ho
      simp only [noSelL] at h
      cases hs : isSel p.op with
      | true => simp [hs] at h
      | false =>
        simp only [hs, cond_false] at h
        rcases List.mem_cons.1 ho with rfl | ho
        · exact hs
        · exact ih h o ho
  have := this ops h o (by simpa using ho)
  cases hop : o.op <;> simp [hop, isSel] at this ⊢
def opAt : List Oper → Nat → Option Oper
  | [], _ => none
  | o :: _, 0 => some o
  | _ :: r, k + 1 => opAt r k
theorem opAt_eq : ∀ (l : List Oper) (k : Nat), l[k]? = opAt l k
  | [], k => by simp [opAt]
  | o :: r, 0 => by simp [opAt]
  | o :: r, k + 1 => by simp [opAt, opAt_eq r k]

/-- May number i be taken first? -/
def mayTake0 (ops : List Oper) (listed : List Bool) (i : Nat) : Bool :=
  bif noSelL ops then (match opAt ops i with | some oi => bif freeL ops listed i oi ops 0 then readyL ops listed i else false | none => false) else false
theorem mayTake_spec0 {ops : List Oper} {listed : List Bool} {i : Nat} (h : mayTake0 ops listed i = true) :
    Region.noSelect ops.toArray = true ∧ Region.free .any ops.toArray listed.toArray i = true ∧ (Region.ready .any ops.toArray listed.toArray).contains i = true := by
  unfold mayTake0 at h
  cases h1 : noSelL ops with
  | false => simp [h1] at h
  | true =>
    simp only [h1, cond_true] at h
    cases h2 : opAt ops i with
    | none => simp [h2] at h
    | some oi =>
      simp only [h2] at h
      cases h3 : freeL ops listed i oi ops 0 with
      | false => simp [h3] at h
      | true =>
        simp only [h3, cond_true] at h
        have hi : ops[i]? = some oi := by rw [opAt_eq]; exact h2
        refine ⟨noSelL_spec ops h1, ?_, ?_⟩
        · unfold Region.free
          simp only [List.getElem?_toArray, hi, List.size_toArray, List.all_eq_true, List.mem_range]
          intro j hj
          have hjo : ops[j]? = some ops[j] := List.getElem?_eq_getElem hj
          have := freeL_spec ops listed i oi ops 0 h3 j _ hjo
          rw [Nat.zero_add] at this
          simp only [hjo]
          exact this
        · rw [readys_eq]
          have hlt : i < ops.length := by
            rcases Nat.lt_or_ge i ops.length with h' | h'
            · exact h'
            · rw [List.getElem?_eq_none h'] at hi; cases hi
          simp only [readys, List.contains_iff_mem, List.mem_filter, List.mem_range]
          exact ⟨hlt, h⟩

def bat : List Bool → Nat → Bool
  | [], _ => false
  | b :: _, 0 => b
  | _ :: l, k + 1 => bat l k
theorem bat_eq : ∀ (l : List Bool) (k : Nat), l.toArray.getD k false = bat l k
  | [], k => by simp [bat]
  | b :: l, 0 => by simp [bat]
  | b :: l, k + 1 => by
    have := bat_eq l k
    simpa [bat] using this
def closedL (listed : List Bool) : List Oper → List Bool → Bool
  | o :: r, b :: s => (!b || o.after.toList.all fun e => !Region.binds .any e || bat listed e.on) && closedL listed r s
  | _, _ => true
theorem closedL_spec (listed : List Bool) : ∀ (ops : List Oper) (s : List Bool), closedL listed ops s = true → ∀ k o, ops[k]? = some o → bat s k = true → ∀ e ∈ o.after.toList, Region.binds .any e = true → bat listed e.on = true
  | [], _, _, _, _, h, _ => by simp at h
  | _ :: _, [], _, _, _, _, h => by simp [bat] at h
  | o :: r, b :: s, h, 0, o', ho, hk => by
    intro e he hb
    simp at ho; subst ho
    simp only [bat] at hk; subst hk
    simp only [closedL, Bool.and_eq_true, Bool.not_true, Bool.false_or, List.all_eq_true, Bool.or_eq_true, Bool.not_eq_true'] at h
    rcases h.1 e he with h1 | h1
    · rw [hb] at h1; cases h1
    · exact h1
  | o :: r, b :: s, h, k + 1, o', ho, hk => by
    simp only [closedL, Bool.and_eq_true] at h
    exact closedL_spec listed r s h.2 k o' (by simpa using ho) (by simpa [bat] using hk)
theorem closedL_ok {ops : List Oper} {listed : List Bool} (h : closedL listed ops listed = true) : Closed .any ops.toArray listed.toArray := by
  intro k o ho hk e he hb
  rw [bat_eq] at hk ⊢
  exact closedL_spec listed ops listed h k o (by simpa using ho) hk e (by simpa using he) hb
def mayTake (ops : List Oper) (listed : List Bool) (i : Nat) : Bool := bif closedL listed ops listed then mayTake0 ops listed i else false
theorem mayTake_spec {ops : List Oper} {listed : List Bool} {i : Nat} (h : mayTake ops listed i = true) :
    Region.noSelect ops.toArray = true ∧ Region.free .any ops.toArray listed.toArray i = true ∧ (Region.ready .any ops.toArray listed.toArray).contains i = true ∧ Closed .any ops.toArray listed.toArray := by
  unfold mayTake at h
  cases hc : closedL listed ops listed with
  | false => rw [hc] at h; cases h
  | true =>
    rw [hc, cond_true] at h
    obtain ⟨h1, h2, h3⟩ := mayTake_spec0 h
    exact ⟨h1, h2, h3, closedL_ok hc⟩

theorem GD.take {ops : List Oper} {i s fuel : Nat} {op : Op} {ty : TypeId} {pos : String} {after : Array Edge} {listed listed' : List Bool} {v : Value} (hi : ops[i]? = some ⟨some s, op, ty, pos, after, none⟩) (hm : mayTake ops listed i = true) (hl : setL listed i = some listed')
    (h : RO P κ F op v) (hs : Nat.blt s n = true) (k : GD P ops Q n d F fuel listed' ((s, v) :: κ) H) : GD P ops Q n d F (fuel + 1) listed κ H := fun a w hf hsat => by
  have hm := mayTake_spec hm
  refine wpAnyZ_take (i := i) (v := v) (by simpa using hi) hm.1 hm.2.1 hm.2.2.1 hm.2.2.2 (fun _ _ _ h => h) (.inl ⟨rfl, fun w' hw' => h n d a w' _ _ _ _ _ hf hw'⟩) hsat.inn ?_
  have := k _ w (hf.put hs) hsat
  rw [← setL_spec hl] at this
  simpa using this
theorem GD.takeG {ops : List Oper} {i s fuel : Nat} {op : Op} {ty : TypeId} {pos : String} {after : Array Edge} {g : Nat × Bool} {listed listed' : List Bool} {v : Value} (hi : ops[i]? = some ⟨some s, op, ty, pos, after, some g⟩) (hg : guardK ops.toArray κ g = some true) (hm : mayTake ops listed i = true) (hl : setL listed i = some listed')
    (h : RO P κ F op v) (hs : Nat.blt s n = true) (k : GD P ops Q n d F fuel listed' ((s, v) :: κ) H) : GD P ops Q n d F (fuel + 1) listed κ H := fun a w hf hsat => by
  have hm := mayTake_spec hm
  refine wpAnyZ_take (i := i) (v := v) (by simpa using hi) hm.1 hm.2.1 hm.2.2.1 hm.2.2.2 (fun _ _ _ h => h) (.inl ⟨guardK_spec hf hg, fun w' hw' => h n d a w' _ _ _ _ _ hf hw'⟩) hsat.inn ?_
  have := k _ w (hf.put hs) hsat
  rw [← setL_spec hl] at this
  simpa using this
theorem GD.passG {ops : List Oper} {i s fuel : Nat} {op : Op} {ty : TypeId} {pos : String} {after : Array Edge} {g : Nat × Bool} {listed listed' : List Bool} (hi : ops[i]? = some ⟨some s, op, ty, pos, after, some g⟩) (hg : guardK ops.toArray κ g = some false) (hm : mayTake ops listed i = true) (hl : setL listed i = some listed')
    (hs : Nat.blt s n = true) (k : GD P ops Q n d F fuel listed' ((s, undef) :: κ) H) : GD P ops Q n d F (fuel + 1) listed κ H := fun a w hf hsat => by
  have hm := mayTake_spec hm
  refine wpAnyZ_take (i := i) (v := undef) (by simpa using hi) hm.1 hm.2.1 hm.2.2.1 hm.2.2.2 (fun _ _ _ h => h) (.inr ⟨guardK_spec hf hg, rfl⟩) hsat.inn ?_
  have := k _ w (hf.put hs) hsat
  rw [← setL_spec hl] at this
  simpa using this

/-- The only one that may come up. -/
def only (ops : List Oper) (listed : List Bool) (i : Nat) : Bool := match readys ops listed with | [j] => Nat.beq j i | _ => false

theorem GD.one {ops : List Oper} {i fuel : Nat} {o : Oper} {listed listed' : List Bool} (hi : ops[i]? = some o) (hm : only ops listed i = true) (hl : setL listed i = some listed')
    (h : ∀ K : Act → World → Prop, (∀ κ' H' a' w', Fr n κ' d a' → Sat H' F w' → GD P ops Q n d F fuel listed' κ' H' → K a' w') → ∀ a w, Fr n κ d a → Sat H F w → Region.wanted o (yielded ops.toArray a.tmps) = true ∧ o.wp P a w K (fun _ _ _ => False)) : GD P ops Q n d F (fuel + 1) listed κ H := fun a w hf hsat => by
  have hr : Region.ready .any ops.toArray listed.toArray = [i] := by
    rw [readys_eq]
    unfold only at hm
    split at hm
    · rename_i j hj; rw [hj, Nat.eq_of_beq_eq_true hm]
    · cases hm
  refine wpAnyZ_all hr (by simp) ?_
  intro j hj
  simp only [List.mem_singleton] at hj
  subst hj
  obtain ⟨h1, h2⟩ := h (fun a' w' => (brk .any ops.toArray j = true ∨ F.In w') ∧ wpAnyZ P .any ops.toArray (NP Q) F.In fuel (listed.toArray.setIfInBounds j true) a' w')
    (fun κ' H' a' w' hf' hs' hk => ⟨.inr hs'.inn, by
      have := hk a' w' hf' hs'
      rw [← setL_spec hl] at this
      simpa using this⟩) a w hf hsat
  unfold wpOp
  have hi' : ops.toArray[j]? = some o := by simpa using hi
  rw [hi']
  simp only [h1, if_true]
  left
  unfold Oper.wp at h2 ⊢
  generalize (execOp a.eval o).run P w = r at h2 ⊢
  cases r with
  | ok x w' =>
    cases x <;> simp only [Oper.upon] at h2 ⊢ <;> first
      | exact h2
      | exact h2.mono fun e w'' he => by
          cases e with
          | returned v => exact he
          | panicked c => exact he.elim
          | outgrown => obtain ⟨_, _, h⟩ := he; exact h.elim
  | halt x w' => cases x <;> simp only [Oper.upon] at h2

/-- An operation that acts, when it is the only one that may come up. -/
theorem GD.acts {ops : List Oper} {i s fuel : Nat} {op : Op} {ty : TypeId} {pos : String} {after : Array Edge} {listed listed' : List Bool} {R : Option Value → List Assn → Prop} (hi : ops[i]? = some ⟨some s, op, ty, pos, after, none⟩) (hm : only ops listed i = true) (hl : setL listed i = some listed')
    (h : Acts P κ H F op R) (hs : Nat.blt s n = true) (k : ∀ v H', R (some v) H' → GD P ops Q n d F fuel listed' ((s, v) :: κ) H') (k0 : ∀ H', ¬ R none H') : GD P ops Q n d F (fuel + 1) listed κ H := by
  refine GD.one hi hm hl ?_
  intro K hK a w hf hsat
  refine ⟨rfl, ?_⟩
  unfold Oper.wp
  obtain ⟨x, v, w', H', hR, hsat', hx, hrun⟩ := h n d a w _ _ _ _ _ hf hsat
  rcases hx with rfl | rfl
  · exact absurd hR (k0 H')
  rcases hrun with hrun | ⟨h0, _⟩
  · rw [hrun, Oper.upon_value]; exact hK _ _ _ w' (hf.put hs) hsat' (k v H' hR)
  · cases h0
theorem GD.acts0 {ops : List Oper} {i fuel : Nat} {op : Op} {ty : TypeId} {pos : String} {after : Array Edge} {listed listed' : List Bool} {R : Option Value → List Assn → Prop} (hi : ops[i]? = some ⟨none, op, ty, pos, after, none⟩) (hm : only ops listed i = true) (hl : setL listed i = some listed')
    (h : Acts P κ H F op R) (k : ∀ x H', R x H' → GD P ops Q n d F fuel listed' κ H') : GD P ops Q n d F (fuel + 1) listed κ H := by
  refine GD.one hi hm hl ?_
  intro K hK a w hf hsat
  refine ⟨rfl, ?_⟩
  unfold Oper.wp
  obtain ⟨x, v, w', H', hR, hsat', hx, hrun⟩ := h n d a w _ _ _ _ _ hf hsat
  rcases hrun with hrun | ⟨_, _, hrun⟩
  · rw [hrun, Oper.upon_value]; exact hK _ _ _ w' hf hsat' (k x H' hR)
  · rw [hrun, Oper.upon_skip]; exact hK _ _ _ w' hf hsat' (k x H' hR)
/-- What looks at owned memory, when it is the only one that may come up. -/
theorem GD.rd {ops : List Oper} {i s fuel : Nat} {op : Op} {ty : TypeId} {pos : String} {after : Array Edge} {listed listed' : List Bool} {v : Value} (hi : ops[i]? = some ⟨some s, op, ty, pos, after, none⟩) (hm : only ops listed i = true) (hl : setL listed i = some listed')
    (h : RD P κ H F op v) (hs : Nat.blt s n = true) (k : GD P ops Q n d F fuel listed' ((s, v) :: κ) H) : GD P ops Q n d F (fuel + 1) listed κ H := by
  refine GD.one hi hm hl ?_
  intro K hK a w hf hsat
  refine ⟨rfl, ?_⟩
  unfold Oper.wp
  rw [h n d a w _ _ _ _ _ hf hsat, Oper.upon_value]; exact hK _ _ _ w (hf.put hs) hsat k

theorem GD.store {ops : List Oper} {i fuel : Nat} {ty : TypeId} {pos : String} {after : Array Edge} {listed listed' : List Bool} {T T' : TypeId} {x y : Operand} {b k m : Nat} {g : Bool} {v : Value} {l l' us : List Value} {H' : List Assn}
    (hi : ops[i]? = some ⟨none, .store T x y, ty, pos, after, none⟩) (hm : only ops listed i = true) (hl : setL listed i = some listed') (hx : ev κ x = some (.pointer (some ⟨b, k, none⟩))) (hy : ev κ y = some v)
    (hv : vc v = some us) (ho : allOne us = true) (hT : lyt P T = some (g, m)) (hm' : us.length = m) (hu : Upd H (pt b (cl l T')) (pt b (cl l' T')) H') (hll : updl l k us = some l')
    (kk : GD P ops Q n d F fuel listed' κ H') : GD P ops Q n d F (fuel + 1) listed κ H :=
  GD.acts0 hi hm hl (Acts.store hx hy hv ho hT hm' hu hll) (fun _ _ h => h.2 ▸ kk)

theorem GD.call {ops : List Oper} {i fuel : Nat} {listed listed' : List Bool} {f : FuncId} {first caps vs l1 l2 : List Value} {x : Operand} {xs : Array Operand} {ats : Array TypeId} {s : Nat} {ty : TypeId} {pos : String} {after : Array Edge} {Hp Hr : List Assn} {R : Value → List Assn → Prop}
    (hi : ops[i]? = some ⟨some s, .call { callee := .value x, args := xs, argTypes := ats }, ty, pos, after, none⟩) (hm : only ops listed i = true) (hl : setL listed i = some listed')
    (hx : ev κ x = some (.func (.func f) first.toArray caps.toArray)) (hxs : evs κ xs.toList = some vs) (h1 : App first vs l1) (h2 : App l1 caps l2) (hS : Split H Hp Hr)
    (spec : ∀ G, F.le G → (∀ A ∈ Hr, G.has A) → FnOk P f l2 Hp G R) (hs : Nat.blt s n = true)
    (k : ∀ v H', R v H' → GD P ops Q n d F fuel listed' ((s, v) :: κ) (H' ++ Hr)) : GD P ops Q n d F (fuel + 1) listed κ H := by
  refine GD.one hi hm hl ?_
  intro K hK a w hf hsat
  refine ⟨rfl, ?_⟩
  obtain ⟨F', hle, hhas, hsat', hback⟩ := Sat.frame Hr (hsat.split hS).append_comm
  have hsp := spec F' hle hhas
  refine wp_call (run_callV hf hsp.real hx hxs h1 h2) ((hsp.calls w hsat').mono ?_)
  rintro e w' ⟨v, H', rfl, hR, hs'⟩
  exact ⟨v, rfl, hK _ _ _ w' (hf.put hs) (hback _ _ hs').append_comm (k v H' hR)⟩

theorem GD.app {ops : List Oper} {fuel : Nat} {listed : List Bool} {X Y Z : List Assn} (p : App X Y Z) (h : GD P ops Q n d F fuel listed κ Z) : GD P ops Q n d F fuel listed κ (X ++ Y) := p.eq ▸ h

theorem GD.done {ops : List Oper} {fuel : Nat} {listed : List Bool} (hr : readys ops listed = []) (h : Post Q .normal n d F κ H) : GD P ops Q n d F fuel listed κ H :=
  fun a w hf hs => wpAnyZ_done (by rw [readys_eq]; exact hr) (by have := h a w hf hs; exact this) fuel

def depsL (ops : List Oper) (j : Nat) : List Nat := match ops[j]? with | some o => (o.after.toList.filter (Region.binds .any)).map (·.on) | none => []
def brkL (ops : List Oper) (j : Nat) : Bool :=
  (List.range ops.length).all fun i => Nat.beq i j || (depsL ops j).any fun k => Nat.beq k i || (depsL ops k).any fun m => Nat.beq m i
theorem depsL_eq (ops : List Oper) (j : Nat) : depsOf .any ops.toArray j = depsL ops j := by
  unfold depsOf depsL
  simp only [List.getElem?_toArray]
  all_goals (cases ops[j]? <;> rfl)
theorem brkL_eq (ops : List Oper) (j : Nat) : brk .any ops.toArray j = brkL ops j := by
  unfold brk brkL
  simp only [depsL_eq, List.size_toArray]
/-- Only the last one is left. -/
def lastOk (ops : List Oper) (listed : List Bool) (i : Nat) : Bool := only ops listed i && brkL ops i && (match setL listed i with | some l => (match readys ops l with | [] => true | _ => false) | none => false)
theorem GD.thaw {A : Assn} {G : Frm} {ops : List Oper} {i fuel : Nat} {listed : List Bool} (ht : ∀ {H w}, Sat H G w → Sat (A :: H) F w) (hm : lastOk ops listed i = true) (h : GD P ops Q n d F (fuel + 1) listed κ (A :: H)) : GD P ops Q n d G (fuel + 1) listed κ H := fun a w hf hs => by
  unfold lastOk at hm
  simp only [Bool.and_eq_true] at hm
  obtain ⟨⟨h1, h2⟩, h3⟩ := hm
  have hr : Region.ready .any ops.toArray listed.toArray = [i] := by
    rw [readys_eq]
    unfold only at h1
    split at h1
    · rename_i j hj; rw [hj, Nat.eq_of_beq_eq_true h1]
    · cases h1
  refine wpAnyZ_last hr (by rw [brkL_eq]; exact h2) ?_ (h a w hf (ht hs))
  split at h3
  · rename_i l hl
    have : listed.toArray.setIfInBounds i true = l.toArray := by rw [← setL_spec hl]; simp
    rw [this, readys_eq]
    split at h3
    · assumption
    · cases h3
  · cases h3

/-- For the while of a region what is only read is frame. -/
theorem Tr.freeze {c : Code} {A : Assn} {H' : List Assn} (p : Pick H A H') (h : ∀ G, F.le G → G.has A → (∀ n d κ H'' e (Q : Exit → Act → World → Prop), Post Q e n d F κ (A :: H'') → Post Q e n d G κ H'') → (∀ {H w}, Sat H G w → Sat (A :: H) F w) → Tr P c Q n d G κ H') : Tr P c Q n d F κ H := fun a w hf hs => by
  obtain ⟨q, hA, hd, hs'⟩ := hs.pick p
  exact h (F.add q) (F.le_add q) (Frm.has_add hA hd) (fun n d κ H'' e Q hp a w hf hs => hp a w hf ⟨q, hA, hd, hs⟩) (fun hs => ⟨q, hA, hd, hs⟩) a w hf hs'

end Go.Sl
/- The engine, part 8: slices of structs. -/
namespace Go.Sl
open Go

variable {P : Program} {n : Nat} {d : List Deferred} {F : Frm} {κ : List (Nat × Value)} {H : List Assn}
variable {Q : Exit → Act → World → Prop} {ops : Array Oper} {rest : List Oper}

/-- e writes each element by sz cells, each of one cell. -/
structure El {α : Type} (e : α → List Value) (sz : Nat) : Prop where
  len : ∀ a, (e a).length = sz
  one : ∀ a, allOne (e a) = true
  pos : 0 < sz

/-- The slice p (length l.length, capacity c) reads as l. -/
def sA {α : Type} (T sz : Nat) (e : α → List Value) (p : Option Addr) (c : Nat) (l : List α) : Assn := fun h =>
  (l = [] ∧ c = 0) ∨ ∃ b off cs fr, p = some ⟨b, off, none⟩ ∧ h b = some (clf cs T fr) ∧ nfz fr off (off + c * sz) ∧ off + c * sz ≤ cs.length ∧ l.length ≤ c ∧
    (∀ i a, l[i]? = some a → subl cs (off + i * sz) sz = some (e a))

/-- The address of an element's cell. -/
def ep (p : Option Addr) (i sz k : Nat) : Value := match p with
  | some a => .pointer (some ⟨a.block, a.off + i * sz + k, none⟩)
  | none => undef

theorem Frm.has_sA {α : Type} {T sz : Nat} {e : α → List Value} {p : Option Addr} {c : Nat} {l : List α} {w : World} (h : F.has (sA T sz e p c l)) (hw : F.In w) :
    (l = [] ∧ c = 0) ∨ ∃ b off cs fr, p = some ⟨b, off, none⟩ ∧ w.heap[b]? = some (clf cs T fr) ∧ nfz fr off (off + c * sz) ∧ off + c * sz ≤ cs.length ∧ l.length ≤ c ∧
    (∀ i a, l[i]? = some a → subl cs (off + i * sz) sz = some (e a)) := by
  obtain ⟨q, hq, hl⟩ := h
  rcases hq with h0 | ⟨b, off, cs, fr, h1, h2, h3⟩
  · exact .inl h0
  · exact .inr ⟨b, off, cs, fr, h1, hw.h b _ (hl b _ h2), h3⟩
theorem Sat.has {A : Assn} {w : World} (h : Sat (A :: H) F w) : ∃ G, F.le G ∧ G.has A ∧ Sat H G w ∧ G.In w := by
  obtain ⟨p, hA, hd, hs⟩ := h
  exact ⟨F.add p, F.le_add p, Frm.has_add hA hd, hs, hs.inn⟩

theorem subl_sub : ∀ {l : List Value} {k n : Nat} {r : List Value}, subl l k n = some r → ∀ {j m : Nat} {q : List Value}, subl r j m = some q → subl l (k + j) m = some q := by
  have key : ∀ (l : List Value) (k n : Nat) (r : List Value), r.length = n → k + n ≤ l.length → (∀ i, i < n → l[k + i]? = r[i]?) → subl l k n = some r := by
    intro l
    induction l with
    | nil =>
      intro k n r h1 h2 h3
      simp at h2
      obtain ⟨rfl, rfl⟩ := h2
      have : r = [] := List.eq_nil_of_length_eq_zero h1
      subst this; rfl
    | cons x l ih =>
      intro k n r h1 h2 h3
      cases k with
      | zero =>
        cases n with
        | zero => have : r = [] := List.eq_nil_of_length_eq_zero h1; subst this; rfl
        | succ n =>
          cases r with
          | nil => simp at h1
          | cons y r =>
            have h0 := h3 0 (by omega)
            simp at h0; subst h0
            have := ih 0 n r (by simpa using h1) (by simp at h2 ⊢; omega) (fun i hi => by have := h3 (i + 1) (by omega); simpa using this)
            simp [subl, this]
      | succ k =>
        have := ih k n r h1 (by simp at h2; omega) (fun i hi => by have := h3 i hi; rw [show k + 1 + i = (k + i) + 1 from by omega] at this; simpa using this)
        simp [subl, this]
  intro l k n r h j m q hq
  obtain ⟨h1, h2⟩ := subl_spec h
  obtain ⟨h3, h4⟩ := subl_spec hq
  have hle : j + m ≤ r.length := by
    rcases Nat.eq_zero_or_pos m with hm | hm
    · subst hm
      -- subl r j 0 needs j ≤ length
      have : ∀ (r : List Value) (j : Nat) (q : List Value), subl r j 0 = some q → j ≤ r.length := by
        intro r
        induction r with
        | nil => intro j q h; cases j <;> simp [subl] at h ⊢
        | cons x r ih => intro j q h; cases j with
          | zero => simp
          | succ j => simp only [subl] at h; have := ih j q h; simp; omega
      have := this r j q hq; omega
    · have := h4 (m - 1) (by omega)
      rw [List.getElem?_eq_getElem (l := q) (by omega)] at this
      obtain ⟨h5, _⟩ := List.getElem?_eq_some_iff.1 this
      omega
  have hle2 : k + n ≤ l.length := by
    rcases Nat.eq_zero_or_pos n with hn | hn
    · subst hn
      have : ∀ (r : List Value) (j : Nat) (q : List Value), subl r j 0 = some q → j ≤ r.length := by
        intro r
        induction r with
        | nil => intro j q h; cases j <;> simp [subl] at h ⊢
        | cons x r ih => intro j q h; cases j with
          | zero => simp
          | succ j => simp only [subl] at h; have := ih j q h; simp; omega
      have := this l k r h; omega
    · have := h2 (n - 1) (by omega)
      rw [List.getElem?_eq_getElem (l := r) (by omega)] at this
      obtain ⟨h5, _⟩ := List.getElem?_eq_some_iff.1 this
      omega
  refine key l (k + j) m q h3 (by omega) (fun i hi => ?_)
  rw [show k + j + i = k + (j + i) from by omega, h2 (j + i) (by omega)]
  exact h4 i hi

theorem subl_mk {l : List Value} {k n : Nat} {r : List Value} (h1 : r.length = n) (h2 : k + n ≤ l.length) (h3 : ∀ i, i < n → l[k + i]? = r[i]?) : subl l k n = some r := by
  -- a prefix of itself
  have := @subl_sub (l) 0 l.length l (by
    have : ∀ l : List Value, subl l 0 l.length = some l := by
      intro l; induction l with
      | nil => rfl
      | cons x l ih => simp [subl, ih]
    exact this l)
  have key : ∀ (l : List Value) (k n : Nat) (r : List Value), r.length = n → k + n ≤ l.length → (∀ i, i < n → l[k + i]? = r[i]?) → subl l k n = some r := by
    intro l
    induction l with
    | nil =>
      intro k n r h1 h2 h3
      simp at h2
      obtain ⟨rfl, rfl⟩ := h2
      have : r = [] := List.eq_nil_of_length_eq_zero h1
      subst this; rfl
    | cons x l ih =>
      intro k n r h1 h2 h3
      cases k with
      | zero =>
        cases n with
        | zero => have : r = [] := List.eq_nil_of_length_eq_zero h1; subst this; rfl
        | succ n =>
          cases r with
          | nil => simp at h1
          | cons y r =>
            have h0 := h3 0 (by omega)
            simp at h0; subst h0
            have := ih 0 n r (by simpa using h1) (by simp at h2 ⊢; omega) (fun i hi => by have := h3 (i + 1) (by omega); simpa using this)
            simp [subl, this]
      | succ k =>
        have := ih k n r h1 (by simp at h2; omega) (fun i hi => by have := h3 i hi; rw [show k + 1 + i = (k + i) + 1 from by omega] at this; simpa using this)
        simp [subl, this]
  exact key l k n r h1 h2 h3

/-! reading -/
theorem RO.fieldEp {s f i sz k off : Nat} {p : Option Addr} {x : Operand} (hp : p ≠ none) (hx : ev κ x = some (ep p i sz k)) (ho : fo P s f = some off) : RO P κ F (.fieldAddr s x f) (ep p i sz (k + off)) := by
  cases p with
  | none => exact absurd rfl hp
  | some a =>
    have := RO.fieldAddr (P := P) (F := F) hx ho
    simpa [ep, Nat.add_assoc] using this
theorem RO.nilCheckEp {i sz k : Nat} {p : Option Addr} {x : Operand} (hp : p ≠ none) (hx : ev κ x = some (ep p i sz k)) : RO P κ F (.nilCheck x) (ep p i sz k) := by
  cases p with
  | none => exact absurd rfl hp
  | some a => exact RO.nilCheck hx
theorem RO.indexEl {T m c e s : Nat} {g : Bool} {x y : Operand} {ik : IntKind} {i : Nat} {p : Option Addr} (hx : ev κ x = some (.slice p m c)) (hi : ev κ y = some (.int ik (i : Int))) (hT : slt P T = some (e, g, s)) (hj : i < m) (hp : ∀ a, p = some a → a.spot = none) (hn : p ≠ none) :
    RO P κ F (.indexAddr T x y) (ep p i s 0) := by
  cases p with
  | none => exact absurd rfl hn
  | some a =>
    obtain ⟨b, o, sp⟩ := a
    have := hp _ rfl
    simp only at this; subst this
    have := RO.indexSl (P := P) (F := F) hx hi hT ⟨by omega, by omega⟩
    simpa [ep] using this

/-- What a slice is, of which something is known. -/
theorem sA_addr {α : Type} {T sz : Nat} {e : α → List Value} {p : Option Addr} {c : Nat} {l : List α} (h : F.has (sA T sz e p c l)) : (c ≠ 0 → ∀ a, p = some a → a.spot = none) ∧ (p = none → l = [] ∧ c = 0) ∧ l.length ≤ c := by
  obtain ⟨q, hq, _⟩ := h
  rcases hq with ⟨h2, h3⟩ | ⟨b, off, cs, fr, h1, _, _, _, h4, _⟩
  · subst h2 h3; simp
  · subst h1; simp [h4]

theorem RO.loadEp {α : Type} {T T' i sz k m c : Nat} {e : α → List Value} {p : Option Addr} {l : List α} {a : α} {x : Operand} {r : List Value} (hx : ev κ x = some (ep p i sz k)) (hA : F.has (sA T' sz e p c l)) (ha : l[i]? = some a)
    (hT : lyt P T = some (true, m)) (hs : subl (e a) k m = some r) : RO P κ F (.load T x) (.agg r.toArray) := by
  intro n' d' a' w dst ty pos after guard hf hs'
  rcases Frm.has_sA hA hs' with ⟨h2, _⟩ | ⟨b, off, cs, fr, h1, h2, hz, h3, h4, h5⟩
  · subst h2; simp at ha
  · subst h1
    have e1 := hf.ev hx
    simp only [ep] at e1
    have := loadVar_agg (P := P) hT h2 (subl_sub (h5 i a ha) hs)
    simp only [execOp, Instr.loadAt, e1, Instr.sureAddr]
    simp [this]
theorem RO.loadEp1 {α : Type} {T T' i sz k m c : Nat} {e : α → List Value} {p : Option Addr} {l : List α} {a : α} {x : Operand} {v : Value} (hx : ev κ x = some (ep p i sz k)) (hA : F.has (sA T' sz e p c l)) (ha : l[i]? = some a)
    (hT : lyt P T = some (false, m)) (hs : subl (e a) k 1 = some [v]) : RO P κ F (.load T x) v := by
  intro n' d' a' w dst ty pos after guard hf hs'
  rcases Frm.has_sA hA hs' with ⟨h2, _⟩ | ⟨b, off, cs, fr, h1, h2, hz, h3, h4, h5⟩
  · subst h2; simp at ha
  · subst h1
    have e1 := hf.ev hx
    simp only [ep] at e1
    have := loadVar_one (P := P) hT h2 (subl_sub (h5 i a ha) hs)
    simp only [execOp, Instr.loadAt, e1, Instr.sureAddr]
    simp [this]
theorem RD.ofHas {op : Op} {v : Value} {A : Assn} {R : List Assn} (hp : Pick H A R) (h : ∀ G, F.le G → G.has A → RO P κ G op v) : RD P κ H F op v := by
  intro n' d' a' w dst ty pos after guard hf hs'
  obtain ⟨G, hle, hA, hs2, hin⟩ := (hs'.pick hp).has
  exact h G hle hA n' d' a' w dst ty pos after guard hf hin
theorem RD.loadEp {α : Type} {T T' i sz k m c : Nat} {e : α → List Value} {p : Option Addr} {l : List α} {a : α} {x : Operand} {r : List Value} {R : List Assn} (hx : ev κ x = some (ep p i sz k)) (hp : Pick H (sA T' sz e p c l) R) (ha : l[i]? = some a)
    (hT : lyt P T = some (true, m)) (hs : subl (e a) k m = some r) : RD P κ H F (.load T x) (.agg r.toArray) := RD.ofHas hp fun _ _ hA => RO.loadEp hx hA ha hT hs
theorem RD.loadEp1 {α : Type} {T T' i sz k m c : Nat} {e : α → List Value} {p : Option Addr} {l : List α} {a : α} {x : Operand} {v : Value} {R : List Assn} (hx : ev κ x = some (ep p i sz k)) (hp : Pick H (sA T' sz e p c l) R) (ha : l[i]? = some a)
    (hT : lyt P T = some (false, m)) (hs : subl (e a) k 1 = some [v]) : RD P κ H F (.load T x) v := RD.ofHas hp fun _ _ hA => RO.loadEp1 hx hA ha hT hs

/-! a slice against nil; parts of slices -/
theorem RO.eqlNil {T c m : Nat} {g : Bool} {e s : Nat} {x y : Operand} {u : TypeId} {p : Option Addr} (hx : ev κ x = some (.slice p m c)) (hy : ev κ y = some (.slice none 0 0)) (hT : slt P T = some (e, g, s)) : RO P κ F (.binOp .eql T x y u) (.bool p.isNone) := by
  intro n' d' a w dst ty pos after guard hf hs
  have ex := hf.ev hx; have ey := hf.ev hy
  obtain ⟨hu, hl⟩ := slt_spec hT
  generalize a.eval = ρ at ex ey ⊢
  have h : ∀ d : Nat, (Op.equalIn (d + 1) T (.slice p m c) (.slice none 0 0)).run P w = .ok p.isNone w := fun d => by
    cases p <;> simp [Op.equalIn, run_underlying hu]
  simp only [execOp, ex, ey, binOp, eqGuard]
  simp [Op.equal, Op.maxDepth, h 9999]

theorem RO.sliceTo {T m c j : Nat} {g : Bool} {e s : Nat} {x y : Operand} {ik : IntKind} {p : Option Addr} (hx : ev κ x = some (.slice p m c)) (hy : ev κ y = some (.int ik (j : Int))) (hT : slt P T = some (e, g, s)) (hj : j ≤ c) (hp : c ≠ 0 → ∀ a, p = some a → a.spot = none) :
    RO P κ F (.slice T x none (some y) none) (.slice p j c) := by
  intro n' d' a w dst ty pos after guard hf hs
  have ex := hf.ev hx; have ey := hf.ev hy
  obtain ⟨hu, hl⟩ := slt_spec hT
  generalize a.eval = ρ at ex ey ⊢
  simp only [execOp, Instr.sliceAt]
  have h1 : (Instr.slice T (.slice p m c) none (some (.int ik (j : Int))) none).run P w = .ok (.slice p j c) w := by
    simp [Instr.slice, run_underlying hu, Instr.sliceBounds, Instr.sliceBound, asIntOf, hj, run_sizeOf hl]
    cases p with
    | none => simp
    | some a => simp [Addr.add]
  simp [run_underlying hu, ex, ey, h1]
/-- The address behind the first j elements. -/
def pAdd (p : Option Addr) (k : Nat) : Option Addr := match p with | some a => some ⟨a.block, a.off + k, none⟩ | none => none
theorem RO.sliceFrom {T m c j : Nat} {g : Bool} {e s : Nat} {x y : Operand} {ik : IntKind} {p : Option Addr} (hx : ev κ x = some (.slice p m c)) (hy : ev κ y = some (.int ik (j : Int))) (hT : slt P T = some (e, g, s)) (hj : j ≤ m) (hp : c ≠ j → ∀ a, p = some a → a.spot = none) :
    RO P κ F (.slice T x (some y) none none) (.slice (if c = j then p else pAdd p (j * s)) (m - j) (c - j)) := by
  intro n' d' a w dst ty pos after guard hf hs
  have ex := hf.ev hx; have ey := hf.ev hy
  obtain ⟨hu, hl⟩ := slt_spec hT
  generalize a.eval = ρ at ex ey ⊢
  simp only [execOp, Instr.sliceAt]
  have h1 : (Instr.slice T (.slice p m c) (some (.int ik (j : Int))) none none).run P w = .ok (.slice (if c = j then p else pAdd p (j * s)) (m - j) (c - j)) w := by
    simp [Instr.slice, run_underlying hu, Instr.sliceBounds, Instr.sliceBound, asIntOf, hj, run_sizeOf hl]
    cases p with
    | none => simp [pAdd]
    | some a =>
      by_cases hc0 : c = j
      · simp [hc0]
      have := hp hc0 a rfl
      obtain ⟨b, o, sp⟩ := a
      simp only at this; subst this
      simp [Addr.add_none, pAdd]
  simp [run_underlying hu, ex, ey, h1]

theorem sA_to {α : Type} {T sz c j : Nat} {e : α → List Value} {p : Option Addr} {l : List α} {h : PH} (hA : sA T sz e p c l h) : sA T sz e p c (l.take j) h := by
  rcases hA with ⟨h2, h3⟩ | ⟨b, off, cs, fr, h1, h2, hz, h3, h4, h5⟩
  · exact .inl ⟨by simp [h2], h3⟩
  · refine .inr ⟨b, off, cs, fr, h1, h2, hz, h3, by simp; omega, fun i a ha => h5 i a ?_⟩
    rw [List.getElem?_take] at ha; split at ha
    · exact ha
    · cases ha
theorem sA_from {α : Type} {T sz c j : Nat} {e : α → List Value} {p : Option Addr} {l : List α} {h : PH} (hA : sA T sz e p c l h) (hj : j ≤ l.length) : sA T sz e (if c = j then p else pAdd p (j * sz)) (c - j) (l.drop j) h := by
  rcases hA with ⟨h2, h3⟩ | ⟨b, off, cs, fr, h1, h2, hz, h3, h4, h5⟩
  · subst h2 h3; exact .inl ⟨by simp, by simp⟩
  · subst h1
    by_cases hc : c = j
    · have : l.drop j = [] := by rw [List.drop_eq_nil_iff]; omega
      rw [if_pos hc, this]
      refine .inr ⟨b, off, cs, fr, rfl, h2, hz.mono (Nat.le_refl _) (by rw [hc]; simp), by rw [hc]; simp; omega, by simp, by simp⟩
    · rw [if_neg hc]
      have hmul : c * sz = j * sz + (c - j) * sz := by rw [← Nat.add_mul]; congr 1; omega
      refine .inr ⟨b, off + j * sz, cs, fr, rfl, h2, hz.mono (by omega) (by omega), by omega, by simp; omega, fun i a ha => ?_⟩
      rw [List.getElem?_drop] at ha
      have := h5 (j + i) a ha
      rw [Nat.add_mul] at this
      rw [show off + j * sz + i * sz = off + (j * sz + i * sz) from by omega]; exact this

/-! storing an element, whole or in part -/
theorem Acts.storeEp {α : Type} {T T' i sz k m c : Nat} {g : Bool} {e : α → List Value} {p : Option Addr} {l : List α} {a a' : α} {x y : Operand} {v : Value} {us : List Value} {H' : List Assn} (hE : El e sz) (hx : ev κ x = some (ep p i sz k)) (hy : ev κ y = some v)
    (hv : vc v = some us) (ho : allOne us = true) (hT : lyt P T = some (g, m)) (hm : us.length = m) (ha : l[i]? = some a) (he : updl (e a) k us = some (e a')) (hu : Upd H (sA T' sz e p c l) (sA T' sz e p c (l.set i a')) H') :
    Acts P κ H F (.store T x y) (fun x K => x = none ∧ K = H') := by
  intro n d fa w dst ty pos after guard hf hs
  obtain ⟨R, p1, p2⟩ := hu.picks
  have h0 := hs.pick p1
  -- open it
  obtain ⟨q, hq, hd, hsr⟩ := h0
  rcases hq with ⟨h2, _⟩ | ⟨b, off, cs, fr, h1, h2, hz, h3, h4, h5⟩
  · subst h2; simp at ha
  · subst h1
    have hil : i < l.length := by
      rcases Nat.lt_or_ge i l.length with h | h
      · exact h
      · rw [List.getElem?_eq_none h] at ha; cases ha
    obtain ⟨u1, u2, u3, u4⟩ := updl_spec he
    rw [hE.len, hE.len] at u1
    rw [hE.len] at u2
    have hmul : i * sz + sz ≤ c * sz := by
      have : (i + 1) * sz ≤ c * sz := Nat.mul_le_mul_right _ (by omega)
      rw [Nat.add_mul] at this; omega
    -- the row's new cells
    have hcs : ∃ cs', updl cs (off + i * sz + k) us = some cs' := by
      have : ∀ (cs : List Value) (k : Nat) (us : List Value), k + us.length ≤ cs.length → ∃ r, updl cs k us = some r := by
        intro cs
        induction cs with
        | nil => intro k us h; simp at h; obtain ⟨rfl, h⟩ := h; cases us with | nil => exact ⟨_, rfl⟩ | cons => simp at h
        | cons x cs ih =>
          intro k us h
          cases k with
          | zero =>
            cases us with
            | nil => exact ⟨_, rfl⟩
            | cons u us => obtain ⟨r, hr⟩ := ih 0 us (by simp at h ⊢; omega); exact ⟨u :: r, by simp [updl, hr]⟩
          | succ k => obtain ⟨r, hr⟩ := ih k us (by simp at h; omega); exact ⟨x :: r, by cases us <;> simp [updl, hr]⟩
      exact this _ _ _ (by omega)
    obtain ⟨cs', hcs'⟩ := hcs
    obtain ⟨c1, c2, c3, c4⟩ := updl_spec hcs'
    have hbw : w.heap[b]? = some (clf cs T' fr) := by
      refine hsr.inn.h b _ ?_
      rcases hd b with h' | h'
      · rw [h2] at h'; cases h'
      · simp [Frm.add, h', h2]
    obtain ⟨w', hr, hb, ho', e1, e2, e3⟩ := run_storeCells (P := P) us 0 cs cs' w ho hbw (by simpa using hcs') (hz.mono (by omega) (by omega))
    -- the memory behind
    have hsat0 : Sat (pt b (clf cs T' fr) :: R) F w := by
      refine ⟨fun b' => if b' = b then some (clf cs T' fr) else none, by simp [pt], fun b' => ?_, ?_⟩
      · by_cases hb' : b' = b
        · subst hb'
          rcases hd b' with h' | h'
          · rw [h2] at h'; cases h'
          · exact .inr h'
        · exact .inl (by simp [hb'])
      · refine hsr.weaken ⟨fun b' o hb' => ?_, rfl, rfl, rfl⟩
        simp only [Frm.add] at hb' ⊢
        cases hF : F.h b' with
        | some o' => simp [hF] at hb' ⊢; exact hb'
        | none =>
          simp [hF] at hb' ⊢
          by_cases hbb : b' = b
          · subst hbb; simp at hb'; subst hb'; exact h2
          · simp [hbb] at hb'
    have hsat1 := hsat0.put hb ho' e1 e2 e3
    have hsat2 : Sat (sA T' sz e (some ⟨b, off, none⟩) c (l.set i a') :: R) F w' := hsat1.imp fun q hq => by
      refine .inr ⟨b, off, cs', fr, rfl, hq, hz, by omega, by simpa using h4, fun j x hj => ?_⟩
      by_cases hji : j = i
      · subst hji
        rw [List.getElem?_set_self hil] at hj
        cases hj
        obtain ⟨s1, s2⟩ := subl_spec (h5 j a ha)
        refine subl_mk (by rw [hE.len]) (by omega) (fun t ht => ?_)
        by_cases hin : k ≤ t ∧ t < k + us.length
        · have := c3 (t - k) (by omega)
          rw [show off + j * sz + k + (t - k) = off + j * sz + t from by omega] at this
          rw [this]
          have := u3 (t - k) (by omega)
          rw [show k + (t - k) = t from by omega] at this
          exact this.symm
        · rw [c4 (off + j * sz + t) (by omega), s2 t ht]
          exact (u4 t (by omega)).symm
      · rw [List.getElem?_set_ne (fun h => hji h.symm)] at hj
        have hjl : j < l.length := by
          rcases Nat.lt_or_ge j l.length with h | h
          · exact h
          · rw [List.getElem?_eq_none h] at hj; cases hj
        obtain ⟨s1, s2⟩ := subl_spec (h5 j x hj)
        have hmulj : j * sz + sz ≤ c * sz := by
          have : (j + 1) * sz ≤ c * sz := Nat.mul_le_mul_right _ (by omega)
          rw [Nat.add_mul] at this; omega
        refine subl_mk (by rw [hE.len]) (by omega) (fun t ht => ?_)
        rw [c4 (off + j * sz + t) ?_, s2 t ht]
        rcases Nat.lt_or_ge j i with h | h
        · have : (j + 1) * sz ≤ i * sz := Nat.mul_le_mul_right _ (by omega)
          rw [Nat.add_mul] at this; left; omega
        · have : (i + 1) * sz ≤ j * sz := Nat.mul_le_mul_right _ (by omega)
          rw [Nat.add_mul] at this; right; omega
    refine ⟨none, undef, w', H', ⟨rfl, rfl⟩, hsat2.unpick p2, .inl rfl, .inr ⟨rfl, rfl, ?_⟩⟩
    have ex := hf.ev hx; have ey := hf.ev hy
    simp only [ep] at ex
    generalize fa.eval = ρ at ex ey ⊢
    have hcv := vc_spec hv
    simp only [execOp, Instr.storeAt, ex, ey, Instr.sureAddr]
    have hsz : v.cells.size = m := by rw [← Array.length_toList, hcv, hm]
    have hsv : (storeVar T ⟨b, off + i * sz + k, none⟩ v).run P w = .ok () w' := by
      simp only [storeVar]
      rw [Sem.run_bind, run_sizeOf hT]
      simp [Result.andThen, hsz, hcv, hr]
    simp [hsv, Result.andThen]

end Go.Sl
/- The engine, part 9: append, make, copy. -/
namespace Go.Sl
open Go

variable {P : Program} {n : Nat} {d : List Deferred} {F : Frm} {κ : List (Nat × Value)} {H : List Assn}
variable {Q : Exit → Act → World → Prop} {ops : Array Oper} {rest : List Oper}

structure AptOk (P : Program) (T e s by_ : Nat) (z : List Value) : Prop where
  under : P.underlying T = some (.slice e)
  size : ∀ w, (sizeOf e).run P w = .ok s w
  info : ∃ i, (∀ w, (typeInfo e).run P w = .ok i w) ∧ i.bytes = by_
  zero : ∃ v, (∀ w, (zeroValue e).run P w = .ok v w) ∧ v.cells = z.toArray
  len : z.length = s
  small : by_ ≤ 1024
theorem apt_ok {T e s by_ : Nat} {z : List Value} (h : apt P T = some (e, s, by_, z)) : AptOk P T e s by_ z := by
  unfold apt at h
  cases hu : P.underlying T with
  | none => simp [hu] at h
  | some dd =>
    cases dd <;> simp only [hu] at h <;> try (cases h; done)
    rename_i e'
    cases hi : P.info? e' with
    | none => simp [hi] at h
    | some i =>
      cases hz : zv P e' with
      | none => simp [hi, hz] at h
      | some z' =>
        cases hl : lyt P e' with
        | none => simp [hi, hz, hl] at h
        | some gs =>
          obtain ⟨g, s'⟩ := gs
          simp only [hi, hz, hl] at h
          cases hb : (Nat.beq z'.length s' && Nat.beq i.size s' && Nat.ble i.bytes 1024) with
          | false => simp [hb] at h
          | true =>
            simp only [hb, cond_true, Option.some.injEq, Prod.mk.injEq] at h
            obtain ⟨rfl, rfl, rfl, rfl⟩ := h
            simp only [Bool.and_eq_true] at hb
            have hz' := hz
            unfold zv at hz'
            simp only [hi] at hz'
            cases hz0 : i.zero with
            | none => simp [hz0] at hz'
            | some v =>
              simp only [hz0] at hz'
              refine ⟨hu, run_sizeOf hl, ⟨i, run_typeInfo hi, rfl⟩, ⟨v, fun w => ?_, by rw [← vc_spec hz']⟩, Nat.eq_of_beq_eq_true hb.1.1, Nat.le_of_ble_eq_true hb.2⟩
              simp only [zeroValue]
              rw [Sem.run_bind, run_typeInfo hi]
              simp [Result.andThen, hz0]

def flat {α : Type} (e : α → List Value) : List α → List Value
  | [] => []
  | a :: l => e a ++ flat e l
theorem flat_len {α : Type} {e : α → List Value} {sz : Nat} (h : ∀ a, (e a).length = sz) : ∀ l, (flat e l).length = l.length * sz
  | [] => by simp [flat]
  | a :: l => by simp only [flat, List.length_append, h, flat_len h l, List.length_cons]; rw [Nat.add_mul]; omega
theorem flat_append {α : Type} {e : α → List Value} : ∀ (l m : List α), flat e (l ++ m) = flat e l ++ flat e m
  | [], m => by simp [flat]
  | a :: l, m => by simp [flat, flat_append l m]
theorem flat_get {α : Type} {e : α → List Value} {sz : Nat} (h : ∀ a, (e a).length = sz) : ∀ (l : List α) (i : Nat) (a : α) (t : Nat), l[i]? = some a → t < sz → (flat e l)[i * sz + t]? = (e a)[t]?
  | [], i, a, t, hi, _ => by simp at hi
  | b :: l, 0, a, t, hi, ht => by
    simp at hi; subst hi
    simp only [flat, Nat.zero_mul, Nat.zero_add]
    rw [List.getElem?_append_left (by rw [h]; exact ht)]
  | b :: l, i + 1, a, t, hi, ht => by
    simp at hi
    simp only [flat]
    rw [Nat.add_mul, List.getElem?_append_right (by rw [h]; omega), h]
    rw [show i * sz + 1 * sz + t - sz = i * sz + t from by omega]
    exact flat_get h l i a t hi ht
theorem flat_one {α : Type} {e : α → List Value} (h : ∀ a, allOne (e a) = true) : ∀ l, allOne (flat e l) = true
  | [] => rfl
  | a :: l => by
    have : ∀ x y : List Value, allOne x = true → allOne y = true → allOne (x ++ y) = true := by
      intro x; induction x with
      | nil => intro y _ hy; exact hy
      | cons v x ih =>
        intro y hx hy
        simp only [List.cons_append, allOne] at hx ⊢
        cases hv : oneC v <;> simp [hv] at hx ⊢
        exact ih y hx hy
    exact this _ _ (h a) (flat_one h l)

theorem growBy_le (newLen : Nat) : ∀ (r c : Nat), Builtin.growBy newLen r c ≤ 2 ^ r * (c + 768)
  | 0, c => by simp [Builtin.growBy]
  | r + 1, c => by
    simp only [Builtin.growBy]
    split
    · have : 1 ≤ 2 ^ (r + 1) := Nat.one_le_two_pow
      have : 1 * (c + 768) ≤ 2 ^ (r + 1) * (c + 768) := Nat.mul_le_mul_right _ this
      omega
    · have h1 := growBy_le newLen r (c + (c + 768) / 4)
      have h2 : c + (c + 768) / 4 + 768 ≤ 2 * (c + 768) := by omega
      calc _ ≤ 2 ^ r * (c + (c + 768) / 4 + 768) := h1
        _ ≤ 2 ^ r * (2 * (c + 768)) := Nat.mul_le_mul_left _ h2
        _ = 2 ^ (r + 1) * (c + 768) := by rw [Nat.pow_succ, Nat.mul_assoc]
theorem nextslicecap_le {need c : Nat} (h : c < need) : Builtin.nextslicecap need c ≤ 16 * (need + 768) := by
  have key : ∀ r g, r = 4 → Builtin.growBy need r c = g → g ≤ 16 * (c + 768) := by
    intro r g hr hg
    have h4 := growBy_le need r c
    rw [hg] at h4
    have h16 : (2 : Nat) ^ r = 16 := by subst hr; decide
    rw [h16] at h4; exact h4
  have h4 := key 4 _ rfl rfl
  unfold Builtin.nextslicecap
  split
  · omega
  · split
    · omega
    · refine Nat.le_trans h4 ?_
      omega

/-- What a list of cells in some memory reads as, whatever has been drawn. -/
def Reads (P : Program) (sz m : Nat) (y : Value) (us : List Value) (w : World) : Prop :=
  Builtin.lenOf y = (pure m : Sem Nat) ∧ ∀ k, (Builtin.firstCells sz m y).run P { w with drawn := k } = .ok us.toArray { w with drawn := k }

theorem run_append {α : Type} {T e s by_ : Nat} {z : List Value} {sz : Nat} {en : α → List Value} {p : Option Addr} {c : Nat} {l xs : List α} {y : Value} {ats : Array TypeId} {ty : TypeId} {w : World} {R : List Assn}
    (hT : apt P T = some (e, s, by_, z)) (hsz : s = sz) (hE : El en sz) (hy : Reads P sz xs.length y (flat en xs) w) (hty : ats = #[T, T]) (hn : l.length + xs.length ≤ 1073741824) (hs : Sat (sA e sz en p c l :: R) F w) :
    ∃ p' c' w', (Builtin.append_ ats ty #[.slice p l.length c, y]).run P w = .ok (.slice p' (l ++ xs).length c') w' ∧ Sat (sA e sz en p' c' (l ++ xs) :: R) F w' := by
  subst hsz
  have A := apt_ok hT
  obtain ⟨i, hi, hby⟩ := A.info
  obtain ⟨zv, hz, hzc⟩ := A.zero
  have hzl := A.len
  obtain ⟨hlen, hcells⟩ := hy
  have hw : ({ w with drawn := w.drawn } : World) = w := rfl
  obtain ⟨q, hq, hd, hsr⟩ := hs
  -- what of the row is known
  have hinv : l.length ≤ c ∧ ((l = [] ∧ c = 0) ∨ ∃ b off cs fr, p = some ⟨b, off, none⟩ ∧ q b = some (clf cs e fr) ∧ nfz fr off (off + c * s) ∧ off + c * s ≤ cs.length ∧ (∀ i a, l[i]? = some a → subl cs (off + i * s) s = some (en a))) := by
    rcases hq with ⟨h2, h3⟩ | ⟨b, off, cs, fr, h1, h2, hz, h3, h4, h5⟩
    · exact ⟨by simp [h2], .inl ⟨h2, h3⟩⟩
    · exact ⟨h4, .inr ⟨b, off, cs, fr, h1, h2, hz, h3, h5⟩⟩
  obtain ⟨hlc, hrow⟩ := hinv
  have hund : ∀ w, (underlying T).run P w = .ok (.slice e) w := run_underlying A.under
  by_cases hroom : l.length + xs.length ≤ c
  · -- there is room
    rcases hrow with ⟨rfl, rfl⟩ | ⟨b, off, cs, fr, rfl, h2, hz, h3, h5⟩
    · have hx0 : xs = [] := List.eq_nil_of_length_eq_zero (by simpa using hroom)
      subst hx0
      refine ⟨p, 0, w, ?_, ⟨q, .inl ⟨rfl, rfl⟩, hd, hsr⟩⟩
      have := hcells w.drawn
      simp only [List.length_nil] at this hlen
      cases p <;> simp [Builtin.append_, hty, hund, A.size, hlen, this, flat, storeCells]
    · have hbw : w.heap[b]? = some (clf cs e fr) := by
        refine hsr.inn.h b _ ?_
        rcases hd b with h' | h'
        · rw [h2] at h'; cases h'
        · simp [Frm.add, h', h2]
      have hmul : l.length * s + xs.length * s ≤ c * s := by rw [← Nat.add_mul]; exact Nat.mul_le_mul_right _ hroom
      have hfl := flat_len hE.len xs
      have hcs : ∃ cs', updl cs (off + l.length * s) (flat en xs) = some cs' := by
        have : ∀ (cs : List Value) (k : Nat) (us : List Value), k + us.length ≤ cs.length → ∃ r, updl cs k us = some r := by
          intro cs
          induction cs with
          | nil => intro k us h; simp at h; obtain ⟨rfl, h⟩ := h; cases us with | nil => exact ⟨_, rfl⟩ | cons => simp at h
          | cons x cs ih =>
            intro k us h
            cases k with
            | zero =>
              cases us with
              | nil => exact ⟨_, rfl⟩
              | cons u us => obtain ⟨r, hr⟩ := ih 0 us (by simp at h ⊢; omega); exact ⟨u :: r, by simp [updl, hr]⟩
            | succ k => obtain ⟨r, hr⟩ := ih k us (by simp at h; omega); exact ⟨x :: r, by cases us <;> simp [updl, hr]⟩
        exact this _ _ _ (by omega)
      obtain ⟨cs', hcs'⟩ := hcs
      obtain ⟨c1, c2, c3, c4⟩ := updl_spec hcs'
      obtain ⟨w', hr, hb, ho', e1, e2, e3⟩ := run_storeCells (P := P) (flat en xs) 0 cs cs' w (k := off + l.length * s) (flat_one hE.one xs) hbw (by simpa using hcs') (hz.mono (by omega) (by rw [hfl]; omega))
      have hsat0 : Sat (pt b (clf cs e fr) :: R) F w := by
        refine ⟨fun b' => if b' = b then some (clf cs e fr) else none, by simp [pt], fun b' => ?_, ?_⟩
        · by_cases hb' : b' = b
          · subst hb'
            rcases hd b' with h' | h'
            · rw [h2] at h'; cases h'
            · exact .inr h'
          · exact .inl (by simp [hb'])
        · refine hsr.weaken ⟨fun b' o hb' => ?_, rfl, rfl, rfl⟩
          simp only [Frm.add] at hb' ⊢
          cases hF : F.h b' with
          | some o' => simp [hF] at hb' ⊢; exact hb'
          | none =>
            simp [hF] at hb' ⊢
            by_cases hbb : b' = b
            · subst hbb; simp at hb'; subst hb'; exact h2
            · simp [hbb] at hb'
      refine ⟨some ⟨b, off, none⟩, c, w', ?_, (hsat0.put hb ho' e1 e2 e3).imp fun q hq => ?_⟩
      · have hc0 := hcells w.drawn
        have hadd : (Addr.add ⟨b, off, none⟩ (l.length * s)) = ⟨b, off + l.length * s, none⟩ := Addr.add_none b off _
        simp [Builtin.append_, hty, hund, A.size, hlen, hroom, hc0, hadd, hr]
      · refine .inr ⟨b, off, cs', fr, rfl, hq, hz, by omega, by simp; omega, fun j a hj => ?_⟩
        have hjl : j < l.length + xs.length := by
          rcases Nat.lt_or_ge j (l ++ xs).length with h | h
          · simpa using h
          · rw [List.getElem?_eq_none h] at hj; cases hj
        have hmulj : j * s + s ≤ c * s := by
          have : (j + 1) * s ≤ c * s := Nat.mul_le_mul_right _ (by omega)
          rw [Nat.add_mul] at this; omega
        refine subl_mk (hE.len a) (by omega) (fun t ht => ?_)
        by_cases hjl' : j < l.length
        · rw [List.getElem?_append_left hjl'] at hj
          obtain ⟨s1, s2⟩ := subl_spec (h5 j a hj)
          have : (j + 1) * s ≤ l.length * s := Nat.mul_le_mul_right _ (by omega)
          rw [Nat.add_mul] at this
          rw [c4 _ (by omega), s2 t ht]
        · rw [List.getElem?_append_right (by omega)] at hj
          have hm2 : j * s = l.length * s + (j - l.length) * s := by rw [← Nat.add_mul]; congr 1; omega
          have hm3 : (j - l.length) * s + s ≤ xs.length * s := by
            have : (j - l.length + 1) * s ≤ xs.length * s := Nat.mul_le_mul_right _ (by omega)
            rw [Nat.add_mul] at this; omega
          have := c3 ((j - l.length) * s + t) (by omega)
          rw [show off + l.length * s + ((j - l.length) * s + t) = off + j * s + t from by omega] at this
          rw [this]
          exact flat_get hE.len xs (j - l.length) a t hj ht
  · -- a new array
    have hneed : ¬ ((l.length + xs.length : Nat) ≤ c) := hroom
    have hcap := nextslicecap_le (need := l.length + xs.length) (c := c) (by omega)
    have hbig : ¬ (Builtin.nextslicecap (l.length + xs.length) c * by_ > 2 ^ 48) := by
      have h1 : Builtin.nextslicecap (l.length + xs.length) c * by_ ≤ (16 * (l.length + xs.length + 768)) * 1024 := Nat.mul_le_mul hcap A.small
      omega
    have hmax : ¬ (((l.length + xs.length : Nat) : Int) > IntKind.i64.max) := by
      have : IntKind.i64.max = 9223372036854775807 := by decide
      rw [this]; omega
    -- the old cells
    have hold : ∀ k, (Builtin.firstCells s l.length (.slice p l.length c)).run P { w with drawn := k } = .ok (flat en l).toArray { w with drawn := k } := by
      intro k
      rcases hrow with ⟨rfl, rfl⟩ | ⟨b, off, cs, fr, rfl, h2, _, h3, h5⟩
      · cases p <;> simp [Builtin.firstCells, flat, loadCells, loadCellsFrom]
      · have hbw : w.heap[b]? = some (clf cs e fr) := by
          refine hsr.inn.h b _ ?_
          rcases hd b with h' | h'
          · rw [h2] at h'; cases h'
          · simp [Frm.add, h', h2]
        have := run_loadCells (P := P) (w := { w with drawn := k }) hbw off (l.length * s) 0 #[] (flat en l) (by rw [flat_len hE.len]) (fun j hj => by
          have hpos := hE.pos
          have hdiv : j / s < l.length := Nat.div_lt_of_lt_mul (by rw [Nat.mul_comm]; exact hj)
          have hmod : j % s < s := Nat.mod_lt _ hpos
          have hje : j / s * s + j % s = j := by rw [Nat.mul_comm]; exact Nat.div_add_mod j s
          have ha : l[j / s]? = some l[j / s] := List.getElem?_eq_getElem hdiv
          obtain ⟨s1, s2⟩ := subl_spec (h5 _ _ ha)
          have h6 := s2 (j % s) hmod
          have h7 := flat_get hE.len l (j / s) _ (j % s) ha hmod
          rw [hje] at h7
          rw [h7, ← h6]; congr 1; omega)
        simpa [Builtin.firstCells, loadCells] using this
    have hsat : Sat (sA e s en (some ⟨w.heap.size, 0, none⟩) ((Question.appendCap (l.length + xs.length) c e).cut (w.tape w.drawn (.appendCap (l.length + xs.length) c e))) (l ++ xs) :: R) F
        { w with drawn := w.drawn + 1, heap := w.heap.push (cl (flat en l ++ flat en xs ++ (Builtin.zeroCells z.toArray ((Question.appendCap (l.length + xs.length) c e).cut (w.tape w.drawn (.appendCap (l.length + xs.length) c e)) - (l.length + xs.length))).toList) e) } := by
      have hR : Sat R F w := hsr.weaken (F.le_add q)
      have h1 := (hR.drawn (n := w.drawn + 1)).alloc (cl (flat en l ++ flat en xs ++ (Builtin.zeroCells z.toArray ((Question.appendCap (l.length + xs.length) c e).cut (w.tape w.drawn (.appendCap (l.length + xs.length) c e)) - (l.length + xs.length))).toList) e)
      refine h1.imp fun q hq => ?_
      have hge : l.length + xs.length ≤ (Question.appendCap (l.length + xs.length) c e).cut (w.tape w.drawn (.appendCap (l.length + xs.length) c e)) := by simp [Question.cut]
      generalize (Question.appendCap (l.length + xs.length) c e).cut (w.tape w.drawn (.appendCap (l.length + xs.length) c e)) = cap at hge hq ⊢
      refine .inr ⟨w.heap.size, 0, _, (0, 0), rfl, hq, nfz0 _ _, ?_, by simpa using hge, fun j a hj => ?_⟩
      · simp only [List.length_append, flat_len hE.len, Builtin.zeroCells]
        simp [hzl]
        have : cap * s = (l.length + xs.length) * s + (cap - (l.length + xs.length)) * s := by rw [← Nat.add_mul]; congr 1; omega
        rw [this, Nat.add_mul]; omega
      · have hjl : j < l.length + xs.length := by
          rcases Nat.lt_or_ge j (l ++ xs).length with h | h
          · simpa using h
          · rw [List.getElem?_eq_none h] at hj; cases hj
        have hmulj : j * s + s ≤ l.length * s + xs.length * s := by
          rw [← Nat.add_mul]
          have : (j + 1) * s ≤ (l.length + xs.length) * s := Nat.mul_le_mul_right _ (by omega)
          rw [Nat.add_mul] at this; omega
        refine subl_mk (hE.len a) (by simp only [List.length_append, flat_len hE.len]; omega) (fun t ht => ?_)
        rw [← flat_append]
        rw [List.getElem?_append_left (by rw [flat_len hE.len, List.length_append, Nat.add_mul]; omega)]
        have := flat_get hE.len (l ++ xs) j a t hj ht
        rw [show 0 + j * s + t = j * s + t from by omega]; exact this
    refine ⟨some ⟨w.heap.size, 0, none⟩, _, _, ?_, hsat⟩
    · have hch : ∀ (k : Nat → Sem Value), ((choose (.appendCap (l.length + xs.length) c e) >>= k).run P w) = (k ((Question.appendCap (l.length + xs.length) c e).cut (w.tape w.drawn (.appendCap (l.length + xs.length) c e)))).run P { w with drawn := w.drawn + 1 } := by
        intro k
        rw [Sem.run_bind]
        simp [choose, Sem.run, Question.forced]
      have hold1 := hold (w.drawn + 1)
      have hnew1 := hcells (w.drawn + 1)
      have hroomB : ∀ (k : Nat) w, (askRoom k).run P w = .ok () w := by
        intro k w
        unfold askRoom
        split <;> simp [mark, Sem.run]
      simp only [Builtin.append_, hty]
      simp only [List.getElem?_toArray, List.getElem?_cons_zero, List.getElem?_cons_succ]
      rw [Sem.run_bind, hund]
      simp only [Result.andThen]
      rw [Sem.run_bind, A.size]
      simp only [Result.andThen]
      rw [Sem.run_bind, hund]
      simp only [Result.andThen]
      simp only [hlen, pure_bind, Bool.false_eq_true, if_false]
      rw [if_neg hneed]
      rw [Sem.run_bind, hi]
      simp only [Result.andThen]
      rw [if_neg (by intro h; exact hmax h.1)]
      rw [Sem.run_bind, hi]
      simp only [Result.andThen]
      rw [if_neg (by rw [hby]; exact hbig)]
      rw [hch]
      rw [Sem.run_bind, hi]
      simp only [Result.andThen]
      rw [Sem.run_bind, hroomB]
      simp only [Result.andThen]
      rw [Sem.run_bind, hold1]
      simp only [Result.andThen, Bool.not_false, if_true]
      rw [Sem.run_bind, hnew1]
      simp only [Result.andThen]
      rw [Sem.run_bind, hz]
      simp only [Result.andThen, hzc]
      have hcl : (flat en l).toArray ++ (flat en xs).toArray ++ Builtin.zeroCells z.toArray ((Question.appendCap (l.length + xs.length) c e).cut (w.tape w.drawn (.appendCap (l.length + xs.length) c e)) - (l.length + xs.length)) =
          (flat en l ++ flat en xs ++ (Builtin.zeroCells z.toArray ((Question.appendCap (l.length + xs.length) c e).cut (w.tape w.drawn (.appendCap (l.length + xs.length) c e)) - (l.length + xs.length))).toList).toArray := by
        apply Array.ext'; simp
      rw [hcl]
      simp only [newRow, newObj, List.length_append]
      rfl

end Go.Sl
/- The engine, part 10: append, make, copy as operations. -/
namespace Go.Sl
open Go

variable {P : Program} {n : Nat} {d : List Deferred} {F : Frm} {κ : List (Nat × Value)} {H : List Assn}
variable {Q : Exit → Act → World → Prop} {ops : Array Oper} {rest : List Oper} {c : Code}

/-- The nil slice costs nothing. -/
theorem Sat.nilS {α : Type} (T sz : Nat) (e : α → List Value) {w : World} (h : Sat H F w) : Sat (sA T sz e none 0 ([] : List α) :: H) F w :=
  ⟨fun _ => none, .inl ⟨rfl, rfl⟩, fun _ => .inl rfl, h.weaken ⟨fun b o hb => by simpa [Frm.add] using hb, rfl, rfl, rfl⟩⟩
theorem Tr.nilS {α : Type} (T sz : Nat) (e : α → List Value) (h : Tr P c Q n d F κ (sA T sz e none 0 ([] : List α) :: H)) : Tr P c Q n d F κ H := Tr.mem (Sat.nilS T sz e) h
theorem G.nilS {α : Type} (T sz : Nat) (e : α → List Value) (h : G P ops Q n d F rest κ (sA T sz e none 0 ([] : List α) :: H)) : G P ops Q n d F rest κ H := G.mem (Sat.nilS T sz e) h

/-- A block that is known whole is a slice of whatever reads so. -/
theorem pt_sA {α : Type} {T sz : Nat} {e : α → List Value} {l : List α} {b : Nat} {us : List Value} (hE : El e sz) (hu : flat e l = us) {h : PH} (hp : pt b (cl us T) h) : sA T sz e (some ⟨b, 0, none⟩) l.length l h := by
  subst hu
  refine .inr ⟨b, 0, _, (0, 0), rfl, hp, nfz0 _ _, by rw [flat_len hE.len]; omega, Nat.le_refl _, fun i a ha => ?_⟩
  have hil : i < l.length := by
    rcases Nat.lt_or_ge i l.length with h | h
    · exact h
    · rw [List.getElem?_eq_none h] at ha; cases ha
  have hm : (i + 1) * sz ≤ l.length * sz := Nat.mul_le_mul_right _ (by omega)
  rw [Nat.add_mul] at hm
  refine subl_mk (hE.len a) (by rw [flat_len hE.len]; omega) (fun t ht => ?_)
  rw [show 0 + i * sz + t = i * sz + t from by omega]
  exact flat_get hE.len l i a t ha ht

theorem Reads.pt {T0 sz m c2 b : Nat} {us : List Value} {w : World} (h : w.heap[b]? = some (cl us T0)) (hl : us.length = m * sz) : Reads P sz m (.slice (some ⟨b, 0, none⟩) m c2) us w :=
  ⟨rfl, fun k => by
    have := run_loadCells (P := P) (w := { w with drawn := k }) h 0 (m * sz) 0 #[] us hl (fun j _ => by simp)
    simpa [Builtin.firstCells, loadCells] using this⟩
theorem Reads.sA {α : Type} {T sz c2 : Nat} {e : α → List Value} {p : Option Addr} {l : List α} {w : World} (hE : El e sz) (hA : F.has (sA T sz e p c2 l)) (hw : F.In w) : Reads P sz l.length (.slice p l.length c2) (flat e l) w := by
  rcases Frm.has_sA hA hw with ⟨h2, h3⟩ | ⟨b, off, cs, fr, h1, h2, hz, h3, h4, h5⟩
  · subst h2 h3; exact ⟨rfl, fun k => by cases p <;> simp [Builtin.firstCells, flat, loadCells, loadCellsFrom]⟩
  · subst h1
    refine ⟨rfl, fun k => ?_⟩
    have := run_loadCells (P := P) (w := { w with drawn := k }) h2 off (l.length * sz) 0 #[] (flat e l) (by rw [flat_len hE.len]) (fun j hj => by
      have hpos := hE.pos
      have hdiv : j / sz < l.length := Nat.div_lt_of_lt_mul (by rw [Nat.mul_comm]; exact hj)
      have hmod : j % sz < sz := Nat.mod_lt _ hpos
      have hje : j / sz * sz + j % sz = j := by rw [Nat.mul_comm]; exact Nat.div_add_mod j sz
      have ha : l[j / sz]? = some l[j / sz] := List.getElem?_eq_getElem hdiv
      obtain ⟨s1, s2⟩ := subl_spec (h5 _ _ ha)
      have h6 := s2 (j % sz) hmod
      have h7 := flat_get hE.len l (j / sz) _ (j % sz) ha hmod
      rw [hje] at h7
      rw [h7, ← h6]; congr 1; omega)
    simpa [Builtin.firstCells, loadCells] using this

theorem Acts.append {α : Type} {T e s by_ sz cp : Nat} {z : List Value} {en : α → List Value} {p : Option Addr} {l : List α} {x y : Operand} {yv : Value} {R : List Assn} (xs : List α) (hE : El en sz)
    (hx : ev κ x = some (.slice p l.length cp)) (hy : ev κ y = some yv) (hT : apt P T = some (e, s, by_, z)) (hs : s = sz) (hp : Pick H (sA e sz en p cp l) R) (hn : l.length + xs.length ≤ 1073741824)
    (hr : ∀ w, Sat H F w → Reads P sz xs.length yv (flat en xs) w) :
    Acts P κ H F (.call { callee := .builtin .append, args := #[x, y], argTypes := #[T, T] }) (fun v K => ∃ p' c', v = some (.slice p' (l ++ xs).length c') ∧ K = sA e sz en p' c' (l ++ xs) :: R) := by
  intro n' d' a w dst ty pos after guard hf hsat
  obtain ⟨p', c', w', h1, h2⟩ := run_append (P := P) (ats := #[T, T]) (ty := ty) hT hs hE (hr w hsat) rfl hn (hsat.pick hp)
  refine ⟨_, _, w', _, ⟨p', c', rfl, rfl⟩, h2, .inr rfl, .inl ?_⟩
  have ex := hf.ev hx; have ey := hf.ev hy
  generalize a.eval = ρ at ex ey ⊢
  have exy : #[x, y].map ρ = #[.slice p l.length cp, yv] := by simp [ex, ey]
  simp only [execOp, resolve, exy, Sem.run_bind, Sem.run_pure, Result.andThen, invoke, builtin]
  rw [h1]

/-- append(s, v): the one element lies in a block that was just built. -/
theorem G.append1 {α : Type} {T T0 e s by_ sz cp c2 b sl : Nat} {z us : List Value} {en : α → List Value} {p : Option Addr} {l : List α} {x y : Operand} {R R0 : List Assn} {ty : TypeId} {pos : String} {after : Array Edge} (a : α) (hE : El en sz)
    (hx : ev κ x = some (.slice p l.length cp)) (hy : ev κ y = some (.slice (some ⟨b, 0, none⟩) 1 c2)) (hT : apt P T = some (e, s, by_, z)) (hs : s = sz) (hp : Pick H (sA e sz en p cp l) R) (hn : l.length + 1 ≤ 1073741824)
    (hq : Pick R (pt b (cl us T0)) R0) (hu : en a = us) (hsl : Nat.blt sl n = true)
    (k : ∀ p' c', G P ops Q n d F rest ((sl, .slice p' (l ++ [a]).length c') :: κ) (sA e sz en p' c' (l ++ [a]) :: R0)) :
    G P ops Q n d F (⟨some sl, .call { callee := .builtin .append, args := #[x, y], argTypes := #[T, T] }, ty, pos, after, none⟩ :: rest) κ H := by
  refine G.acts (Acts.append [a] hE hx hy hT hs hp (by simpa using hn) (fun w hw => ?_)) hsl ?_ (fun _ ⟨_, _, h, _⟩ => by cases h)
  · have h2 := (hw.pick hp).drop.pick hq
    have hl : us.length = 1 * sz := by rw [← hu, hE.len]; omega
    have : flat en [a] = us := by simp [flat, hu]
    rw [this]
    exact Reads.pt h2.pt_head hl
  · rintro v H' ⟨p', c', h1, h2⟩
    cases h1; subst h2
    refine G.mem (fun hs => ?_) (k p' c')
    exact hs.under fun _ h => (h.pick hq).drop

/-- append(s, t...): t is read. -/
theorem G.appendF {α : Type} {T T0 e s by_ sz cp c2 sl : Nat} {z : List Value} {en : α → List Value} {p q : Option Addr} {l m : List α} {x y : Operand} {R : List Assn} {ty : TypeId} {pos : String} {after : Array Edge} (hE : El en sz)
    (hx : ev κ x = some (.slice p l.length cp)) (hy : ev κ y = some (.slice q m.length c2)) (hT : apt P T = some (e, s, by_, z)) (hs : s = sz) (hp : Pick H (sA e sz en p cp l) R) (hn : l.length + m.length ≤ 1073741824)
    (hq : F.has (sA T0 sz en q c2 m)) (hsl : Nat.blt sl n = true)
    (k : ∀ p' c', G P ops Q n d F rest ((sl, .slice p' (l ++ m).length c') :: κ) (sA e sz en p' c' (l ++ m) :: R)) :
    G P ops Q n d F (⟨some sl, .call { callee := .builtin .append, args := #[x, y], argTypes := #[T, T] }, ty, pos, after, none⟩ :: rest) κ H := by
  refine G.acts (Acts.append m hE hx hy hT hs hp hn (fun w hw => Reads.sA hE hq hw.inn)) hsl ?_ (fun _ ⟨_, _, h, _⟩ => by cases h)
  rintro v H' ⟨p', c', h1, h2⟩
  cases h1; subst h2
  exact k p' c'
theorem G.appendH {α : Type} {T T0 e s by_ sz cp c2 sl : Nat} {z : List Value} {en : α → List Value} {p q : Option Addr} {l m : List α} {x y : Operand} {R R0 : List Assn} {ty : TypeId} {pos : String} {after : Array Edge} (hE : El en sz)
    (hx : ev κ x = some (.slice p l.length cp)) (hy : ev κ y = some (.slice q m.length c2)) (hT : apt P T = some (e, s, by_, z)) (hs : s = sz) (hp : Pick H (sA e sz en p cp l) R) (hn : l.length + m.length ≤ 1073741824)
    (hq : Pick H (sA T0 sz en q c2 m) R0) (hsl : Nat.blt sl n = true)
    (k : ∀ p' c', G P ops Q n d F rest ((sl, .slice p' (l ++ m).length c') :: κ) (sA e sz en p' c' (l ++ m) :: R)) :
    G P ops Q n d F (⟨some sl, .call { callee := .builtin .append, args := #[x, y], argTypes := #[T, T] }, ty, pos, after, none⟩ :: rest) κ H := by
  refine G.acts (Acts.append m hE hx hy hT hs hp hn (fun w hw => ?_)) hsl ?_ (fun _ ⟨_, _, h, _⟩ => by cases h)
  · obtain ⟨G, _, hA, _, hin⟩ := (hw.pick hq).has
    exact Reads.sA hE hA hin
  · rintro v H' ⟨p', c', h1, h2⟩
    cases h1; subst h2
    exact k p' c'

/-! a slice literal -/
def rep : Nat → List Value → List Value
  | 0, _ => []
  | m + 1, z => z ++ rep m z
theorem rep_eq {z : List Value} {s : Nat} (hz : z.length = s) (hs : 0 < s) : ∀ m, (Array.range (m * s)).map (z.toArray[· % z.toArray.size]!) = (rep m z).toArray := by
  intro m
  apply Array.ext'
  simp only [Array.toList_map, Array.toList_range, List.size_toArray, hz]
  apply List.ext_getElem?
  intro i
  have hlen : ∀ m, (rep m z).length = m * s := by
    intro m; induction m with
    | zero => simp [rep]
    | succ m ih => simp only [rep, List.length_append, ih, hz]; rw [Nat.add_mul]; omega
  have hget : ∀ m i, i < m * s → (rep m z)[i]? = z[i % s]? := by
    intro m; induction m with
    | zero => intro i h; omega
    | succ m ih =>
      intro i h
      simp only [rep]
      rcases Nat.lt_or_ge i s with hi | hi
      · rw [List.getElem?_append_left (by rw [hz]; exact hi), Nat.mod_eq_of_lt hi]
      · rw [List.getElem?_append_right (by rw [hz]; exact hi), hz, ih (i - s) (by rw [Nat.add_mul] at h; omega)]
        congr 1
        conv => rhs; rw [show i = (i - s) + s from by omega]
        rw [Nat.add_mod_right]
  rcases Nat.lt_or_ge i (m * s) with hi | hi
  · have hm : i % s < z.length := by rw [hz]; exact Nat.mod_lt _ hs
    rw [hget m i hi, List.getElem?_map, List.getElem?_range hi]
    simp [hm]
  · rw [List.getElem?_eq_none (by simpa using hi), List.getElem?_eq_none (by rw [hlen]; exact hi)]

theorem Acts.buildSlice {T e s by_ m : Nat} {z r : List Value} {ps : Array (Nat × Operand)} {vs : List (Nat × Value)} (hT : apt P T = some (e, s, by_, z)) (hps : parts κ ps.toList = some vs) (hb : bld (fun i => some (i * s, s)) (rep m z) vs = some r) (hm : Nat.ble (m * s) 16777216 = true) (hs : Nat.blt 0 s = true) :
    Acts P κ H F (.buildSlice T m ps) (fun v K => ∃ b, v = some (.slice (some ⟨b, 0, none⟩) m m) ∧ K = pt b (cl r e) :: H) := by
  intro n' d' a w dst ty pos after guard hf hsat
  have A := apt_ok hT
  obtain ⟨zv, hz, hzc⟩ := A.zero
  have hs0 : 0 < s := by simpa using hs
  have hm' : ¬ (m * s > 2 ^ 24) := by have := Nat.le_of_ble_eq_true hm; omega
  have eps : (ps.map fun p => (p.1, a.eval p.2)).toList = vs := by rw [Array.toList_map]; exact hf.parts hps
  refine ⟨_, _, _, _, ⟨w.heap.size, rfl, rfl⟩, hsat.alloc (cl r e), .inr rfl, .inl ?_⟩
  generalize a.eval = ρ at eps ⊢
  have e2 : ps.toList.map (fun (x : Nat × Operand) => (x.1, ρ x.2)) = vs := by rw [← eps, Array.toList_map]
  simp only [execOp, Instr.buildSlice]
  rw [Sem.run_bind, Sem.run_bind, run_underlying A.under]
  simp only [Result.andThen]
  rw [Sem.run_bind, A.size]
  simp only [Result.andThen]
  rw [if_neg hm']
  have hfill : (Array.range (m * s)).map (z.toArray[· % z.toArray.size]!) = (rep m z).toArray := rep_eq A.len hs0 m
  have hf2 := fill_of_bld (place' := fun i => some (i * s, s)) (fun _ _ h => h) vs (rep m z) r hb
  by_cases h0 : m * s = 0
  · have hm0 : m = 0 := by rcases Nat.mul_eq_zero.1 h0 with h | h; exact h; omega
    subst hm0
    have hr0 : Array.range 0 = #[] := rfl
    simp only [rep] at hf2
    simp [e2, hr0, hf2, newRow, newObj, Sem.run, cl]
  · simp only [if_neg h0]
    simp [hz, hzc] at hfill ⊢
    rw [hfill, e2, hf2]
    simp [newRow, newObj, Sem.run, cl]

theorem G.buildSlice {T e s by_ m sl : Nat} {z r : List Value} {ps : Array (Nat × Operand)} {vs : List (Nat × Value)} {ty : TypeId} {pos : String} {after : Array Edge} (hT : apt P T = some (e, s, by_, z)) (hps : parts κ ps.toList = some vs) (hb : bld (fun i => some (i * s, s)) (rep m z) vs = some r) (hm : Nat.ble (m * s) 16777216 = true) (hs : Nat.blt 0 s = true) (hsl : Nat.blt sl n = true)
    (k : ∀ b, G P ops Q n d F rest ((sl, .slice (some ⟨b, 0, none⟩) m m) :: κ) (pt b (cl r e) :: H)) : G P ops Q n d F (⟨some sl, .buildSlice T m ps, ty, pos, after, none⟩ :: rest) κ H :=
  G.acts (Acts.buildSlice hT hps hb hm hs) hsl (fun v H' ⟨b, h1, h2⟩ => by cases h1; subst h2; exact k b) (fun _ ⟨_, h, _⟩ => by cases h)

/-! make -/
theorem Acts.makeSlice {α : Type} {T e s by_ sz m : Nat} {z : List Value} {en : α → List Value} {x y : Operand} (z0 : α) (hE : El en sz) (hx : ev κ x = some (.int .i64 (m : Int))) (hy : ev κ y = some (.int .i64 (m : Int))) (hT : apt P T = some (e, s, by_, z)) (hs : s = sz) (hz0 : en z0 = z) (hm : m ≤ 1073741824) :
    Acts P κ H F (.makeSlice T x y) (fun v K => ∃ p, p ≠ none ∧ v = some (.slice p m m) ∧ K = sA e sz en p m (List.replicate m z0) :: H) := by
  intro n' d' a w dst ty pos after guard hf hsat
  subst hs
  have A := apt_ok hT
  obtain ⟨i, hi, hby⟩ := A.info
  obtain ⟨zv, hz, hzc⟩ := A.zero
  have hsm := A.small
  have hrep : ∀ m, flat en (List.replicate m z0) = rep m z := by
    intro m; induction m with
    | zero => rfl
    | succ m ih => simp only [List.replicate_succ, flat, rep, ih, hz0]
  have hsat' := (hsat.alloc (cl (rep m z) e)).imp fun q hq => pt_sA (l := List.replicate m z0) hE (hrep m) hq
  rw [List.length_replicate] at hsat'
  refine ⟨_, _, _, _, ⟨some ⟨w.heap.size, 0, none⟩, by simp, rfl, rfl⟩, hsat', .inr rfl, .inl ?_⟩
  have ex := hf.ev hx; have ey := hf.ev hy
  generalize a.eval = ρ at ex ey ⊢
  have hw : IntKind.i64.wrap (m : Int) = m := wrap_i64 ⟨by omega, by omega⟩
  have hroomB : ∀ (k : Nat) w, (askRoom k).run P w = .ok () w := by
    intro k w
    unfold askRoom
    split <;> simp [mark, Sem.run]
  have hmul : by_ * m ≤ 1024 * 1073741824 := Nat.mul_le_mul hsm hm
  have hcell : (Array.range (m * s)).map (z.toArray[· % z.toArray.size]!) = (rep m z).toArray := rep_eq A.len hE.pos m
  have hbig : ¬ ((by_ : Int) * m > 2 ^ 48) := by
    have h1 : by_ * m ≤ 1099511627776 := hmul
    have h2 : (by_ : Int) * (m : Int) = ((by_ * m : Nat) : Int) := (Int.natCast_mul by_ m).symm
    rw [h2]; omega
  simp only [execOp, Instr.makeSlice, ex, ey]
  rw [Sem.run_bind, Sem.run_bind, run_underlying A.under]
  simp only [Result.andThen, asInt, asIntOf, pure_bind]
  rw [Sem.run_bind, hi]
  simp only [Result.andThen, hw, hby]
  have hneg : ¬ ((m : Int) < 0) := by omega
  have hcond : ¬ ((((decide ((m : Int) < 0) || decide ((by_ : Int) * m > 2 ^ 48)) || decide ((m : Int) < 0)) || decide ((m : Int) > m)) = true) := by
    simp only [Bool.or_eq_true, decide_eq_true_eq]
    rintro (((h | h) | h) | h)
    · exact hneg h
    · exact hbig h
    · exact hneg h
    · omega
  rw [if_neg hcond]
  rw [Sem.run_bind, hroomB]
  simp only [Result.andThen, Int.toNat_natCast]
  rw [Sem.run_bind, A.size]
  simp only [Result.andThen]
  by_cases h0 : m * s = 0
  · have hm0 : m = 0 := by rcases Nat.mul_eq_zero.1 h0 with h | h; exact h; have := hE.pos; omega
    subst hm0
    have hr0 : Array.range 0 = #[] := rfl
    simp [hr0, newRow, newObj, Sem.run, cl, rep]
  · simp only [if_neg h0]
    rw [Sem.run_bind, hz]
    simp only [Result.andThen, hzc, hcell]
    simp [newRow, newObj, Sem.run, cl]

end Go.Sl

namespace Go.Sl
open Go
variable {P : Program} {n : Nat} {d : List Deferred} {F : Frm} {κ : List (Nat × Value)} {H : List Assn}
variable {Q : Exit → Act → World → Prop} {ops : Array Oper} {rest : List Oper} {c : Code}

theorem sA_nn {α : Type} {T sz c : Nat} {e : α → List Value} {p : Option Addr} {l : List α} {i : Nat} {a : α} (h : F.has (sA T sz e p c l)) (ha : l[i]? = some a) : p ≠ none := by
  intro h0
  have := (sA_addr h).2.1 h0
  rw [this.1] at ha; simp at ha
theorem RO.atEl {α : Type} {T T' c e s i : Nat} {g : Bool} {en : α → List Value} {p : Option Addr} {l : List α} {a : α} {x y : Operand} {ik : IntKind} (hx : ev κ x = some (.slice p l.length c)) (hi : ev κ y = some (.int ik (i : Int))) (hT : slt P T = some (e, g, s)) (hA : F.has (sA T' s en p c l)) (ha : l[i]? = some a) :
    RO P κ F (.indexAddr T x y) (ep p i s 0) := by
  have hil : i < l.length := by
    rcases Nat.lt_or_ge i l.length with h | h
    · exact h
    · rw [List.getElem?_eq_none h] at ha; cases ha
  exact RO.indexEl hx hi hT hil ((sA_addr hA).1 (fun h0 => by have := (sA_addr hA).2.2; omega)) (sA_nn hA ha)
theorem RD.atEl {α : Type} {T T' c e s i : Nat} {g : Bool} {en : α → List Value} {p : Option Addr} {l : List α} {a : α} {x y : Operand} {ik : IntKind} {R : List Assn} (hx : ev κ x = some (.slice p l.length c)) (hi : ev κ y = some (.int ik (i : Int))) (hT : slt P T = some (e, g, s)) (hA : Pick H (sA T' s en p c l) R) (ha : l[i]? = some a) :
    RD P κ H F (.indexAddr T x y) (ep p i s 0) := RD.ofHas hA fun _ _ h => RO.atEl hx hi hT h ha
theorem RO.fieldEl {α : Type} {s f i sz k off c T' : Nat} {en : α → List Value} {p : Option Addr} {l : List α} {a : α} {x : Operand} (hx : ev κ x = some (ep p i sz k)) (hA : F.has (sA T' sz en p c l)) (ha : l[i]? = some a) (ho : fo P s f = some off) : RO P κ F (.fieldAddr s x f) (ep p i sz (k + off)) :=
  RO.fieldEp (sA_nn hA ha) hx ho
theorem RD.fieldEl {α : Type} {s f i sz k off c T' : Nat} {en : α → List Value} {p : Option Addr} {l : List α} {a : α} {x : Operand} {R : List Assn} (hx : ev κ x = some (ep p i sz k)) (hA : Pick H (sA T' sz en p c l) R) (ha : l[i]? = some a) (ho : fo P s f = some off) : RD P κ H F (.fieldAddr s x f) (ep p i sz (k + off)) :=
  RD.ofHas hA fun _ _ h => RO.fieldEl hx h ha ho
theorem RO.nilEl {α : Type} {i sz k c T' : Nat} {en : α → List Value} {p : Option Addr} {l : List α} {a : α} {x : Operand} (hx : ev κ x = some (ep p i sz k)) (hA : F.has (sA T' sz en p c l)) (ha : l[i]? = some a) : RO P κ F (.nilCheck x) (ep p i sz k) :=
  RO.nilCheckEp (sA_nn hA ha) hx
theorem RD.nilEl {α : Type} {i sz k c T' : Nat} {en : α → List Value} {p : Option Addr} {l : List α} {a : α} {x : Operand} {R : List Assn} (hx : ev κ x = some (ep p i sz k)) (hA : Pick H (sA T' sz en p c l) R) (ha : l[i]? = some a) : RD P κ H F (.nilCheck x) (ep p i sz k) :=
  RD.ofHas hA fun _ _ h => RO.nilEl hx h ha
theorem RD.sliceTo {α : Type} {T T' c e s j : Nat} {g : Bool} {en : α → List Value} {p : Option Addr} {l : List α} {x y : Operand} {ik : IntKind} {R : List Assn} (hx : ev κ x = some (.slice p l.length c)) (hy : ev κ y = some (.int ik (j : Int))) (hT : slt P T = some (e, g, s)) (hA : Pick H (sA T' s en p c l) R) (hj : j ≤ l.length) :
    RD P κ H F (.slice T x none (some y) none) (.slice p j c) := RD.ofHas hA fun _ _ h => RO.sliceTo hx hy hT (Nat.le_trans hj (sA_addr h).2.2) (sA_addr h).1
theorem RO.sliceToF {α : Type} {T T' c e s j : Nat} {g : Bool} {en : α → List Value} {p : Option Addr} {l : List α} {x y : Operand} {ik : IntKind} (hx : ev κ x = some (.slice p l.length c)) (hy : ev κ y = some (.int ik (j : Int))) (hT : slt P T = some (e, g, s)) (hA : F.has (sA T' s en p c l)) (hj : j ≤ l.length) :
    RO P κ F (.slice T x none (some y) none) (.slice p j c) := RO.sliceTo hx hy hT (Nat.le_trans hj (sA_addr hA).2.2) (sA_addr hA).1

/-- A slice of a known address, from j on, not to its end. -/
theorem RO.sliceFromL {T m c j b k : Nat} {g : Bool} {e s : Nat} {x y : Operand} {ik : IntKind} {v : Value} (hx : ev κ x = some (.slice (some ⟨b, k, none⟩) m c)) (hy : ev κ y = some (.int ik (j : Int))) (hT : slt P T = some (e, g, s)) (hj : j ≤ m ∧ c ≠ j) (hv : Value.slice (some ⟨b, k + j * s, none⟩) (m - j) (c - j) = v) :
    RO P κ F (.slice T x (some y) none none) v := by
  have := RO.sliceFrom (P := P) (F := F) hx hy hT hj.1 (fun _ a ha => by cases ha; rfl)
  rw [if_neg hj.2] at this
  subst hv
  exact this
theorem G.storeEl {α : Type} {T T' i sz k m cp : Nat} {g : Bool} {e : α → List Value} {p : Option Addr} {l : List α} {a : α} (a' : α) {x y : Operand} {v : Value} {us : List Value} {H' : List Assn} {ty : TypeId} {pos : String} {after : Array Edge} (hE : El e sz) (hx : ev κ x = some (ep p i sz k)) (hy : ev κ y = some v)
    (hv : vc v = some us) (ho : allOne us = true) (hT : lyt P T = some (g, m)) (hm : us.length = m) (ha : l[i]? = some a) (he : updl (e a) k us = some (e a')) (hu : Upd H (sA T' sz e p cp l) (sA T' sz e p cp (l.set i a')) H')
    (kk : G P ops Q n d F rest κ H') : G P ops Q n d F (⟨none, .store T x y, ty, pos, after, none⟩ :: rest) κ H :=
  G.acts0 (Acts.storeEp hE hx hy hv ho hT hm ha he hu) (fun _ _ h => h.2 ▸ kk)
end Go.Sl
/- The engine, part 11: maps. -/
namespace Go.Sl
open Go

variable {P : Program} {n : Nat} {d : List Deferred} {F : Frm} {κ : List (Nat × Value)} {H : List Assn}
variable {Q : Exit → Act → World → Prop} {ops : Array Oper} {rest : List Oper} {c : Code}
variable {K V : Type} [DecidableEq K]

/-- Where a key stands first, and its value. -/
def fnd (k : K) : List (K × V) → Nat → Option (Nat × V)
  | [], _ => none
  | (a, v) :: r, i => if k = a then some (i, v) else fnd k r (i + 1)
def lkm (k : K) : List (K × V) → Option V
  | [] => none
  | (a, v) :: r => if k = a then some v else lkm k r
def insm (k : K) (v : V) : List (K × V) → List (K × V)
  | [] => [(k, v)]
  | (a, u) :: r => if k = a then (a, v) :: r else (a, u) :: insm k v r
def delm (k : K) : List (K × V) → List (K × V)
  | [] => []
  | (a, u) :: r => if k = a then r else (a, u) :: delm k r

theorem fnd_lkm (k : K) : ∀ (m : List (K × V)) (i : Nat), (fnd k m i).map (·.2) = lkm k m
  | [], _ => rfl
  | (a, v) :: r, i => by simp only [fnd, lkm]; split <;> simp [fnd_lkm k r]
theorem fnd_none (k : K) (v : V) : ∀ (m : List (K × V)) (i : Nat), fnd k m i = none → insm k v m = m ++ [(k, v)] ∧ delm k m = m
  | [], _, _ => ⟨rfl, rfl⟩
  | (a, u) :: r, i, h => by
    simp only [fnd] at h
    split at h
    · cases h
    · rename_i hk
      obtain ⟨h1, h2⟩ := fnd_none k v r (i + 1) h
      simp [insm, delm, hk, h1, h2]
theorem fnd_none_del (k : K) : ∀ (m : List (K × V)) (i : Nat), fnd k m i = none → delm k m = m
  | [], _, _ => rfl
  | (a, u) :: r, i, h => by
    simp only [fnd] at h
    split at h
    · cases h
    · rename_i hk
      simp [delm, hk, fnd_none_del k r (i + 1) h]
theorem fnd_some (k : K) : ∀ (m : List (K × V)) (i j : Nat) (u : V), fnd k m i = some (j, u) → ∃ t, j = i + t ∧ t < m.length ∧ m[t]? = some (k, u) ∧ (∀ v, insm k v m = m.set t (k, v)) ∧ delm k m = m.eraseIdx t
  | [], _, _, _, h => by cases h
  | (a, w) :: r, i, j, u, h => by
    simp only [fnd] at h
    split at h
    · rename_i hk; cases h
      exact ⟨0, by simp, by simp, by simp [hk], fun v => by simp [insm, hk], by simp [delm, hk]⟩
    · rename_i hk
      obtain ⟨t, h1, h2, h3, h4, h5⟩ := fnd_some k r (i + 1) j u h
      exact ⟨t + 1, by omega, by simpa using h2, by simpa using h3, fun v => by simp [insm, hk, h4 v], by simp [delm, hk, h5]⟩

/-- Keys that the map's own comparison tells apart just as we do. -/
structure KeyOk (P : Program) (T : TypeId) (ek : K → Value) : Prop where
  check : ∀ k e w, (Instr.checkKey e 10000 T (ek k)).run P w = .ok () w
  find : ∀ k (es : List MapEntry) (m : List (K × Value)) w, es.map (fun e => (e.key, e.val)) = m.map (fun p => (ek p.1, p.2)) → (Instr.findKey T (ek k) es).run P w = .ok (fnd k m 0) w
  bits : ∀ k, Instr.sameBits 10000 (ek k) (ek k) = true

/-- Block b is a map that reads as m, entry by entry, the eldest first. -/
def mA (ek : K → Value) (ev' : V → Value) (b : Nat) (m : List (K × V)) : Assn := fun h =>
  ∃ es clock, h b = some (.map es clock) ∧ es.toList.map (fun e => (e.key, e.val)) = m.map (fun p => (ek p.1, ev' p.2)) ∧ (es.toList.map (·.born)).Pairwise (· < ·) ∧ ∀ e ∈ es.toList, e.born < clock

omit [DecidableEq K] in
theorem Sat.mapHead {ek : K → Value} {ev' : V → Value} {b : Nat} {m : List (K × V)} {w : World} (h : Sat (mA ek ev' b m :: H) F w) :
    ∃ es clock, w.heap[b]? = some (.map es clock) ∧ es.toList.map (fun e => (e.key, e.val)) = m.map (fun p => (ek p.1, ev' p.2)) ∧ (es.toList.map (·.born)).Pairwise (· < ·) ∧ (∀ e ∈ es.toList, e.born < clock) ∧ Sat (pt b (.map es clock) :: H) F w := by
  obtain ⟨p, ⟨es, clock, h1, h2, h3, h4⟩, hd, hs⟩ := h
  have h5 : Sat (pt b (.map es clock) :: H) F w := ⟨p, h1, hd, hs⟩
  exact ⟨es, clock, h5.pt_head, h2, h3, h4, h5⟩

theorem run_getObj {w : World} {b : Nat} {o : Obj} (h : w.heap[b]? = some o) (hn : ∀ c t f, o ≠ .cells c t f) : (getObj b).run P w = .ok o w := by
  cases o <;> first | exact absurd rfl (hn _ _ _) | simp [getObj, Sem.run, h]
theorem run_setObj {w : World} {b : Nat} {o o' : Obj} (h : w.heap[b]? = some o) (hn : ∀ c t f, o ≠ .cells c t f) : (Go.setObj b o').run P w = .ok () { w with heap := w.heap.setIfInBounds b o' } := by
  cases o <;> first | exact absurd rfl (hn _ _ _) | simp [Go.setObj, Sem.run, h]
theorem Sat.setObj {w : World} {b : Nat} {o o' : Obj} (h : Sat (pt b o :: H) F w) : Sat (pt b o' :: H) F { w with heap := w.heap.setIfInBounds b o' } := by
  have hb := h.pt_head
  refine h.put ?_ (fun c hc => ?_) rfl rfl rfl
  · have hlt : b < w.heap.size := by
      rcases Nat.lt_or_ge b w.heap.size with h' | h'
      · exact h'
      · rw [Array.getElem?_eq_none h'] at hb; cases hb
    show (w.heap.setIfInBounds b o')[b]? = _
    rw [Array.getElem?_setIfInBounds_self_of_lt hlt]
  · show (w.heap.setIfInBounds b o')[c]? = _
    rw [Array.getElem?_setIfInBounds_ne (fun e => hc e.symm)]

theorem mpt_ok {T k e : Nat} (h : mpt P T = some (k, e)) : P.underlying T = some (.map k e) := by
  unfold mpt at h
  split at h
  · cases h; assumption
  · cases h

theorem run_zero {e : Nat} {v : Value} (h : zro P e = some v) (w : World) : (zeroValue e).run P w = .ok v w := by
  unfold zro at h
  cases hi : P.info? e with
  | none => simp [hi] at h
  | some i =>
    simp only [hi] at h
    simp only [zeroValue]
    rw [Sem.run_bind, run_typeInfo hi]
    simp [Result.andThen, h]

theorem run_lookup {T kt et b : Nat} {ek : K → Value} {ev' : V → Value} {m : List (K × V)} {k : K} {z : V} {ok : Bool} {w : World} (hT : mpt P T = some (kt, et)) (hk : KeyOk P kt ek)
    (hz : zro P et = some (ev' z)) (hs : Sat (mA ek ev' b m :: H) F w) :
    (Instr.lookup T (.map (some b)) (ek k) ok).run P w = .ok (if ok then .tuple #[ev' ((lkm k m).getD z), .bool (lkm k m).isSome] else ev' ((lkm k m).getD z)) w := by
  obtain ⟨es, clock, h1, h2, _, _, _⟩ := hs.mapHead
  have hu := mpt_ok hT
  have hg := run_getObj (P := P) h1 (by intro _ _ _ h; cases h)
  have hf := hk.find k es.toList (m.map fun p => (p.1, ev' p.2)) w (by rw [h2]; simp)
  have hl := fnd_lkm k (m.map fun p => (p.1, ev' p.2)) 0
  have hmap : lkm k (m.map fun p => (p.1, ev' p.2)) = (lkm k m).map ev' := by
    clear hf hl h2 hs
    induction m with
    | nil => rfl
    | cons p r ih => obtain ⟨a, v⟩ := p; simp only [List.map_cons, lkm]; split <;> simp [ih]
  rw [hmap] at hl
  simp only [Instr.lookup]
  rw [Sem.run_bind, run_underlying hu]
  simp only [Result.andThen]
  rw [Sem.run_bind, hg]
  simp only [Result.andThen, pure_bind]
  rw [Sem.run_bind, hk.check]
  simp only [Result.andThen]
  rw [Sem.run_bind, hf]
  simp only [Result.andThen]
  cases hfd : fnd k (m.map fun p => (p.1, ev' p.2)) 0 with
  | none =>
    rw [hfd] at hl
    cases hlm : lkm k m with
    | some v => rw [hlm] at hl; simp at hl
    | none =>
      simp only
      rw [Sem.run_bind, run_zero hz]
      simp only [Result.andThen, Sem.run_pure]
      cases ok <;> simp
  | some iv =>
    obtain ⟨i, v⟩ := iv
    rw [hfd] at hl
    cases hlm : lkm k m with
    | none => rw [hlm] at hl; simp at hl
    | some u =>
      rw [hlm] at hl
      simp at hl
      subst hl
      cases ok <;> simp

theorem RD.lookup {T kt et b : Nat} {ek : K → Value} {ev' : V → Value} {m : List (K × V)} (k : K) {z : V} {x y : Operand} {R : List Assn} (hx : ev κ x = some (.map (some b))) (hy : ev κ y = some (ek k)) (hT : mpt P T = some (kt, et)) (hk : KeyOk P kt ek)
    (hz : zro P et = some (ev' z)) (hp : Pick H (mA ek ev' b m) R) : RD P κ H F (.lookup T x y false) (ev' ((lkm k m).getD z)) := by
  intro n' d' a w dst ty pos after guard hf hs
  have := run_lookup (P := P) (k := k) (ok := false) hT hk hz (hs.pick hp)
  have ex := hf.ev hx; have ey := hf.ev hy
  generalize a.eval = ρ at ex ey ⊢
  simp only [execOp, ex, ey]
  simp [this]
theorem RD.lookup2 {T kt et b : Nat} {ek : K → Value} {ev' : V → Value} {m : List (K × V)} (k : K) {z : V} {x y : Operand} {R : List Assn} (hx : ev κ x = some (.map (some b))) (hy : ev κ y = some (ek k)) (hT : mpt P T = some (kt, et)) (hk : KeyOk P kt ek)
    (hz : zro P et = some (ev' z)) (hp : Pick H (mA ek ev' b m) R) : RD P κ H F (.lookup T x y true) (.tuple #[ev' ((lkm k m).getD z), .bool (lkm k m).isSome]) := by
  intro n' d' a w dst ty pos after guard hf hs
  have := run_lookup (P := P) (k := k) (ok := true) hT hk hz (hs.pick hp)
  have ex := hf.ev hx; have ey := hf.ev hy
  generalize a.eval = ρ at ex ey ⊢
  simp only [execOp, ex, ey]
  simp [this]

omit [DecidableEq K] in
theorem pair_at {es : Array MapEntry} {m : List (K × V)} {ek : K → Value} {ev' : V → Value} (h : es.toList.map (fun e => (e.key, e.val)) = m.map (fun p => (ek p.1, ev' p.2))) {t : Nat} {p : K × V} (ht : m[t]? = some p) :
    ∃ e, es[t]? = some e ∧ e.key = ek p.1 ∧ e.val = ev' p.2 := by
  have := congrArg (fun l => l[t]?) h
  simp only [List.getElem?_map, ht, Option.map_some, Array.getElem?_toList] at this
  cases he : es[t]? with
  | none => simp [he] at this
  | some e => simp [he] at this; exact ⟨e, rfl, this.1, this.2⟩

theorem run_mapUpdate {T kt et b : Nat} {ek : K → Value} {ev' : V → Value} {m : List (K × V)} {k : K} {v : V} {w : World} (hT : mpt P T = some (kt, et)) (hk : KeyOk P kt ek) (hs : Sat (mA ek ev' b m :: H) F w) :
    ∃ w', (Instr.mapUpdate T (.map (some b)) (ek k) (ev' v)).run P w = .ok () w' ∧ Sat (mA ek ev' b (insm k v m) :: H) F w' := by
  obtain ⟨es, clock, h1, h2, h3, h4, h5⟩ := hs.mapHead
  have hu := mpt_ok hT
  have hg := run_getObj (P := P) h1 (by intro _ _ _ h; cases h)
  have hf := hk.find k es.toList (m.map fun p => (p.1, ev' p.2)) w (by rw [h2]; simp)
  have hins : ∀ (m : List (K × V)), (insm k v m).map (fun p => (p.1, ev' p.2)) = insm k (ev' v) (m.map fun p => (p.1, ev' p.2)) := by
    intro m; induction m with
    | nil => rfl
    | cons p r ih => obtain ⟨a, u⟩ := p; simp only [List.map_cons, insm]; split <;> simp [ih]
  simp only [Instr.mapUpdate]
  rw [Sem.run_bind, run_underlying hu]
  simp only [Result.andThen]
  rw [Sem.run_bind, hg]
  simp only [Result.andThen]
  rw [Sem.run_bind, hk.check]
  simp only [Result.andThen]
  rw [Sem.run_bind, hf]
  simp only [Result.andThen]
  cases hfd : fnd k (m.map fun p => (p.1, ev' p.2)) 0 with
  | none =>
    obtain ⟨hi, _⟩ := fnd_none k (ev' v) _ 0 hfd
    refine ⟨_, run_setObj (P := P) h1 (by intro _ _ _ h; cases h), (h5.setObj (o' := .map (es.push { key := ek k, val := ev' v, born := clock }) (clock + 1))).imp fun q hq => ⟨_, _, hq, ?_, ?_, ?_⟩⟩
    · have h6 : (insm k v m).map (fun p => (ek p.1, ev' p.2)) = ((insm k v m).map (fun p => (p.1, ev' p.2))).map fun p => (ek p.1, p.2) := by simp
      rw [h6, hins, hi]
      simp [h2]
    · simp only [Array.toList_push, List.map_append, List.map_cons, List.map_nil]
      rw [List.pairwise_append]
      refine ⟨h3, by simp, fun x hx y hy => ?_⟩
      simp only [List.mem_map] at hx
      obtain ⟨e, he, rfl⟩ := hx
      simp at hy; subst hy; exact h4 e he
    · intro e he
      simp only [Array.toList_push, List.mem_append, List.mem_singleton] at he
      rcases he with he | rfl
      · have := h4 e he; omega
      · simp
  | some iu =>
    obtain ⟨i, u⟩ := iu
    obtain ⟨t, ht, hlt, hmt, hset, _⟩ := fnd_some k _ 0 i u hfd
    simp only [Nat.zero_add] at ht; subst ht
    have hmt' : ∃ p, m[i]? = some p ∧ p.1 = k := by
      simp only [List.getElem?_map] at hmt
      cases hm : m[i]? with
      | none => simp [hm] at hmt
      | some p => simp [hm] at hmt; exact ⟨p, rfl, hmt.1⟩
    obtain ⟨p, hp, hpk⟩ := hmt'
    obtain ⟨e, he, hek, hev⟩ := pair_at h2 hp
    have hkts : (Instr.keyThatStays (((es[i]?).map (·.key)).getD (ek k)) (ek k)).run P w = .ok (ek k) w := by
      simp only [he, Option.map_some, Option.getD_some, hek, hpk, Instr.keyThatStays, hk.bits, if_true, Sem.run_pure]
    rw [Sem.run_bind, hkts]
    simp only [Result.andThen]
    refine ⟨_, run_setObj (P := P) h1 (by intro _ _ _ h; cases h), (h5.setObj (o' := .map (es.modify i fun e => { e with key := ek k, val := ev' v }) clock)).imp fun q hq => ⟨_, _, hq, ?_, ?_, ?_⟩⟩
    · have h6 : (insm k v m).map (fun p => (ek p.1, ev' p.2)) = ((insm k v m).map (fun p => (p.1, ev' p.2))).map fun p => (ek p.1, p.2) := by simp
      rw [h6, hins, hset]
      apply List.ext_getElem?
      intro j
      simp only [List.getElem?_map, Array.getElem?_toList, Array.getElem?_modify]
      have hj := congrArg (fun l => l[j]?) h2
      simp only [List.getElem?_map, Array.getElem?_toList] at hj
      by_cases hji : i = j
      · subst hji
        have hlt' : i < (m.map fun p => (p.1, ev' p.2)).length := hlt
        simp [he, List.getElem?_set_self hlt']
      · rw [if_neg hji, List.getElem?_set_ne hji]
        simp only [List.getElem?_map]
        rw [hj]; cases m[j]? <;> simp
    · have : (es.modify i fun e => { e with key := ek k, val := ev' v }).toList.map (·.born) = es.toList.map (·.born) := by
        apply List.ext_getElem?
        intro j
        simp only [List.getElem?_map, Array.getElem?_toList, Array.getElem?_modify]
        split
        · cases es[j]? <;> simp
        · rfl
      rw [this]; exact h3
    · intro e' he'
      have : ∃ e ∈ es.toList, e.born = e'.born := by
        obtain ⟨j, hj⟩ := List.mem_iff_getElem?.1 he'
        simp only [Array.getElem?_toList, Array.getElem?_modify] at hj
        split at hj
        · cases hej : es[j]? with
          | none => simp [hej] at hj
          | some x => simp [hej] at hj; exact ⟨x, by simpa using Array.mem_of_getElem? hej, by rw [← hj]⟩
        · exact ⟨e', by simpa using Array.mem_of_getElem? hj, rfl⟩
      obtain ⟨e, hm, hb⟩ := this
      rw [← hb]; exact h4 e hm


theorem eraseIdx_map' {α β : Type} (f : α → β) : ∀ (l : List α) (i : Nat), (l.map f).eraseIdx i = (l.eraseIdx i).map f
  | [], i => by simp
  | a :: l, 0 => by simp
  | a :: l, i + 1 => by simp [eraseIdx_map' f l i]

theorem run_delete {T kt et b : Nat} {ek : K → Value} {ev' : V → Value} {m : List (K × V)} {k : K} {w : World} {ats : Array TypeId} {ty : TypeId} (hT : mpt P T = some (kt, et)) (hk : KeyOk P kt ek) (hats : ats[0]? = some T) (hs : Sat (mA ek ev' b m :: H) F w) :
    ∃ w', (Builtin.delete_ ats ty #[.map (some b), ek k]).run P w = .ok (.tuple #[]) w' ∧ Sat (mA ek ev' b (delm k m) :: H) F w' := by
  obtain ⟨es, clock, h1, h2, h3, h4, h5⟩ := hs.mapHead
  have hu := mpt_ok hT
  have hg := run_getObj (P := P) h1 (by intro _ _ _ h; cases h)
  have hf := hk.find k es.toList (m.map fun p => (p.1, ev' p.2)) w (by rw [h2]; simp)
  have hdel : ∀ (m : List (K × V)), (delm k m).map (fun p => (p.1, ev' p.2)) = delm k (m.map fun p => (p.1, ev' p.2)) := by
    intro m; induction m with
    | nil => rfl
    | cons p r ih => obtain ⟨a, u⟩ := p; simp only [List.map_cons, delm]; split <;> simp [ih]
  simp only [Builtin.delete_, hats, List.getElem?_toArray, List.getElem?_cons_zero, List.getElem?_cons_succ]
  rw [Sem.run_bind, run_underlying hu]
  simp only [Result.andThen]
  rw [Sem.run_bind, hg]
  simp only [Result.andThen]
  rw [Sem.run_bind, hk.check]
  simp only [Result.andThen]
  rw [Sem.run_bind, hf]
  simp only [Result.andThen]
  cases hfd : fnd k (m.map fun p => (p.1, ev' p.2)) 0 with
  | none =>
    have hd := fnd_none_del k _ 0 hfd
    rw [Sem.run_bind, run_setObj (P := P) h1 (by intro _ _ _ h; cases h)]
    refine ⟨_, rfl, (h5.setObj (o' := .map es clock)).imp fun q hq => ⟨_, _, hq, ?_, h3, h4⟩⟩
    have h6 : (delm k m).map (fun p => (ek p.1, ev' p.2)) = ((delm k m).map (fun p => (p.1, ev' p.2))).map fun p => (ek p.1, p.2) := by simp
    rw [h6, hdel, hd, h2]; simp
  | some iu =>
    obtain ⟨i, u⟩ := iu
    obtain ⟨t, ht, hlt, hmt, _, hdl⟩ := fnd_some k _ 0 i u hfd
    simp only [Nat.zero_add] at ht; subst ht
    have hle : i < es.size := by
      have := congrArg List.length h2
      simp at this hlt
      omega
    rw [Sem.run_bind, run_setObj (P := P) h1 (by intro _ _ _ h; cases h)]
    refine ⟨_, rfl, (h5.setObj (o' := .map (es.eraseIdxIfInBounds i) clock)).imp fun q hq => ⟨_, _, hq, ?_, ?_, ?_⟩⟩
    · have h6 : (delm k m).map (fun p => (ek p.1, ev' p.2)) = ((delm k m).map (fun p => (p.1, ev' p.2))).map fun p => (ek p.1, p.2) := by simp
      rw [h6, hdel, hdl]
      simp only [Array.eraseIdxIfInBounds, hle, dif_pos, Array.toList_eraseIdx, ← eraseIdx_map', h2, List.map_map]
      rfl
    · simp only [Array.eraseIdxIfInBounds, hle, dif_pos, Array.toList_eraseIdx, ← eraseIdx_map']
      exact h3.sublist (List.eraseIdx_sublist _ _)
    · intro e he
      simp only [Array.eraseIdxIfInBounds, hle, dif_pos, Array.toList_eraseIdx] at he
      exact h4 e ((List.eraseIdx_sublist _ _).subset he)

/-! the operations in their region -/
theorem Acts.mapUpdate {T kt et b : Nat} {ek : K → Value} {ev' : V → Value} {m : List (K × V)} (k : K) (v : V) {x y z : Operand} {R : List Assn} (hx : ev κ x = some (.map (some b))) (hy : ev κ y = some (ek k)) (hz : ev κ z = some (ev' v)) (hT : mpt P T = some (kt, et)) (hk : KeyOk P kt ek) (hp : Pick H (mA ek ev' b m) R) {op : Op} (hop : op = .mapUpdate T x y z ∨ op = .insert T x y z) :
    Acts P κ H F op (fun x J => x = none ∧ J = mA ek ev' b (insm k v m) :: R) := by
  intro n' d' a w dst ty pos after guard hf hs
  obtain ⟨w', h1, h2⟩ := run_mapUpdate (P := P) (k := k) (v := v) hT hk (hs.pick hp)
  refine ⟨none, undef, w', _, ⟨rfl, rfl⟩, h2, .inl rfl, .inr ⟨rfl, rfl, ?_⟩⟩
  have ex := hf.ev hx; have ey := hf.ev hy; have ez := hf.ev hz
  generalize a.eval = ρ at ex ey ez ⊢
  rcases hop with rfl | rfl <;> simp [execOp, ex, ey, ez, h1]
theorem G.mapUpdate {T kt et b : Nat} {ek : K → Value} {ev' : V → Value} {m : List (K × V)} (k : K) (v : V) {x y z : Operand} {R : List Assn} {op : Op} {ty : TypeId} {pos : String} {after : Array Edge} (hop : op = .mapUpdate T x y z ∨ op = .insert T x y z) (hx : ev κ x = some (.map (some b))) (hy : ev κ y = some (ek k)) (hz : ev κ z = some (ev' v)) (hT : mpt P T = some (kt, et)) (hk : KeyOk P kt ek) (hp : Pick H (mA ek ev' b m) R)
    (kk : G P ops Q n d F rest κ (mA ek ev' b (insm k v m) :: R)) : G P ops Q n d F (⟨none, op, ty, pos, after, none⟩ :: rest) κ H :=
  G.acts0 (Acts.mapUpdate k v hx hy hz hT hk hp hop) (fun _ _ h => h.2 ▸ kk)

theorem Acts.delete {T kt et b : Nat} {ek : K → Value} {ev' : V → Value} {m : List (K × V)} (k : K) {x y : Operand} {u : TypeId} {R : List Assn} (hx : ev κ x = some (.map (some b))) (hy : ev κ y = some (ek k)) (hT : mpt P T = some (kt, et)) (hk : KeyOk P kt ek) (hp : Pick H (mA ek ev' b m) R) :
    Acts P κ H F (.call { callee := .builtin .delete, args := #[x, y], argTypes := #[T, u] }) (fun x J => x = some (.tuple #[]) ∧ J = mA ek ev' b (delm k m) :: R) := by
  intro n' d' a w dst ty pos after guard hf hs
  obtain ⟨w', h1, h2⟩ := run_delete (P := P) (k := k) (ats := #[T, u]) (ty := ty) hT hk rfl (hs.pick hp)
  refine ⟨_, _, w', _, ⟨rfl, rfl⟩, h2, .inr rfl, .inl ?_⟩
  have ex := hf.ev hx; have ey := hf.ev hy
  generalize a.eval = ρ at ex ey ⊢
  have exy : #[x, y].map ρ = #[.map (some b), ek k] := by simp [ex, ey]
  simp only [execOp, resolve, exy, Sem.run_bind, Sem.run_pure, Result.andThen, invoke, builtin]
  rw [h1]

omit [DecidableEq K] in
theorem Acts.makeMap {T : TypeId} (ek : K → Value) (ev' : V → Value) : Acts P κ H F (.makeMap T none) (fun x J => ∃ b, x = some (.map (some b)) ∧ J = mA ek ev' b ([] : List (K × V)) :: H) := by
  intro n' d' a w dst ty pos after guard hf hs
  refine ⟨_, _, _, _, ⟨w.heap.size, rfl, rfl⟩, (hs.alloc (.map #[] 0)).imp fun q hq => ⟨#[], 0, hq, rfl, by simp, by simp⟩, .inr rfl, .inl ?_⟩
  simp [execOp, Instr.makeMap, newObj, Sem.run]
omit [DecidableEq K] in
theorem G.makeMap {T : TypeId} {s : Nat} {ty : TypeId} {pos : String} {after : Array Edge} (ek : K → Value) (ev' : V → Value) (hs : Nat.blt s n = true)
    (k : ∀ b, G P ops Q n d F rest ((s, .map (some b)) :: κ) (mA ek ev' b ([] : List (K × V)) :: H)) : G P ops Q n d F (⟨some s, .makeMap T none, ty, pos, after, none⟩ :: rest) κ H :=
  G.acts (Acts.makeMap ek ev') hs (fun v H' ⟨b, h1, h2⟩ => by cases h1; subst h2; exact k b) (fun _ ⟨_, h, _⟩ => by cases h)

omit [DecidableEq K] in
theorem RD.lenMap {T kt et b : Nat} {ek : K → Value} {ev' : V → Value} {m : List (K × V)} {x : Operand} {R : List Assn} (hx : ev κ x = some (.map (some b))) (hT : mpt P T = some (kt, et)) (hp : Pick H (mA ek ev' b m) R) : RD P κ H F (.call { callee := .builtin .len, args := #[x], argTypes := #[T] }) (.int .i64 m.length) := by
  intro n' d' a w dst ty pos after guard hf hs
  obtain ⟨es, clock, h1, h2, _, _, _⟩ := (hs.pick hp).mapHead
  have hu := mpt_ok hT
  have hg := run_getObj (P := P) h1 (by intro _ _ _ h; cases h)
  have hlen : es.size = m.length := by have := congrArg List.length h2; simpa using this
  have ex := hf.ev hx
  generalize a.eval = ρ at ex ⊢
  simp only [execOp, resolve]
  simp only [Sem.run_bind, Sem.run_pure, Result.andThen, invoke, builtin]
  simp only [Builtin.len_]
  simp [ex, run_underlying hu, hg, goInt, hlen]

/-! keys -/
abbrev ekI (n : Int) : Value := .int .i64 n
theorem keyI {T : TypeId} {k : IntKind} (hT : P.underlying T = some (.int k)) (hk : k = .i64) : KeyOk P T ekI := by
  subst hk
  refine ⟨fun a e w => ?_, fun a es m w hes => ?_, fun a => by simp [Instr.sameBits]⟩
  · have : ∀ d : Nat, (Instr.checkKey e (d + 1) T (ekI a)).run P w = .ok () w := fun d => by
      simp only [Instr.checkKey]
      rw [Sem.run_bind, run_underlying hT]
      simp [Result.andThen]
    exact this 9999
  · have key : ∀ (m : List (Int × Value)) (es : List MapEntry) (i : Nat), es.map (fun e => (e.key, e.val)) = m.map (fun p => (ekI p.1, p.2)) → Instr.findNow (.int .i64) (ekI a) es i = some (fnd a m i) := by
      intro m
      induction m with
      | nil => intro es i h; simp at h; subst h; rfl
      | cons p r ih =>
        intro es i h
        cases es with
        | nil => simp at h
        | cons e es =>
          obtain ⟨b, v⟩ := p
          simp only [List.map_cons, List.cons.injEq, Prod.mk.injEq] at h
          obtain ⟨⟨h1, h2⟩, h3⟩ := h
          simp only [Instr.findNow, h1, Instr.sameNow, if_true, fnd]
          by_cases hab : a = b
          · subst hab; simp [h2]
          · have : (a == b) = false := by simpa using hab
            simp only [this, if_neg hab]
            exact ih es (i + 1) h3
    simp only [Instr.findKey]
    rw [Sem.run_bind, run_underlying hT]
    simp [Result.andThen, key m es 0 hes]

end Go.Sl
/- The engine, part 12: strings, bytes, numbers' conversions, pointers held against each other. -/
namespace Go.Sl
open Go

variable {P : Program} {n : Nat} {d : List Deferred} {F : Frm} {κ : List (Nat × Value)} {H : List Assn}
variable {Q : Exit → Act → World → Prop} {ops : Array Oper} {rest : List Oper} {c : Code}

/-- A string of these bytes. -/
abbrev str (l : List UInt8) : Value := .string ⟨l.toArray⟩
theorem isStr_ok {T : Nat} (h : isStr P T = true) : P.underlying T = some .string := by
  unfold isStr at h; split at h <;> simp_all
theorem intK_ok {T : Nat} {k : IntKind} (h : intK P T = some k) : P.underlying T = some (.int k) := by
  unfold intK at h; split at h <;> simp_all

theorem RO.lenStr {T : TypeId} {x : Operand} {l : List UInt8} (hx : ev κ x = some (str l)) (hT : isStr P T = true) : RO P κ F (.call { callee := .builtin .len, args := #[x], argTypes := #[T] }) (.int .i64 l.length) := by
  intro n' d' a w dst ty pos after guard hf hs
  have ex := hf.ev hx
  have hu := isStr_ok hT
  generalize a.eval = ρ at ex ⊢
  simp only [execOp, resolve]
  simp only [Sem.run_bind, Sem.run_pure, Result.andThen, invoke, builtin]
  have h1 : #[x].map ρ = #[str l] := by simp [ex]
  have h2 : (Builtin.len_ #[T] ty #[str l]).run P w = .ok (.int .i64 l.length) w := by
    simp only [Builtin.len_]
    simp only [List.getElem?_toArray, List.getElem?_cons_zero]
    rw [Sem.run_bind, run_underlying hu]
    rfl
  rw [h1, h2]

theorem str_get {l : List UInt8} {i : Nat} (h : i < (ByteArray.mk l.toArray).size) : (ByteArray.mk l.toArray)[i] = l[i]'(by simpa [ByteArray.size] using h) := rfl

theorem RO.indexStr {T : TypeId} {x y : Operand} {l : List UInt8} {k : IntKind} {i : Nat} {b : UInt8} (hx : ev κ x = some (str l)) (hy : ev κ y = some (.int k (i : Int))) (hT : isStr P T = true) (hb : l[i]? = some b) : RO P κ F (.index T x y) (.int .u8 b.toNat) := by
  intro n' d' a w dst ty pos after guard hf hs
  have ex := hf.ev hx; have ey := hf.ev hy
  have hu := isStr_ok hT
  obtain ⟨hi, hb⟩ := List.getElem?_eq_some_iff.1 hb
  have := run_index_string w T ⟨l.toArray⟩ k (i : Int) hu
  have hsz : (ByteArray.mk l.toArray).size = l.length := rfl
  rw [dif_pos (by rw [hsz]; omega)] at this
  generalize a.eval = ρ at ex ey ⊢
  simp only [execOp, ex, ey]
  rw [Sem.run_bind, this]
  simp [Result.andThen, str_get, hb]

theorem run_sliceAt_str {T : TypeId} (hu : P.underlying T = some .string) (x : Value) (a b c : Option Value) (w : World) : (Instr.sliceAt T x a b c).run P w = (Instr.slice T x a b c).run P w := by
  simp [Instr.sliceAt, run_underlying hu]
theorem RO.sliceStr {T : TypeId} {x y z : Operand} {l : List UInt8} {k k' : IntKind} {i j : Nat} (hx : ev κ x = some (str l)) (hy : ev κ y = some (.int k (i : Int))) (hz : ev κ z = some (.int k' (j : Int))) (hT : isStr P T = true) (hi : i ≤ j) (hj : j ≤ l.length) : RO P κ F (.slice T x (some y) (some z) none) (str ((l.drop i).take (j - i))) := by
  intro n' d' a w dst ty pos after guard hf hs
  have ex := hf.ev hx; have ey := hf.ev hy; have ez := hf.ev hz
  have hu := isStr_ok hT
  have hsz : (ByteArray.mk l.toArray).size = l.length := rfl
  have := run_slice_string w T ⟨l.toArray⟩ k k' (i : Int) (j : Int) hu (by omega) (by omega) (by rw [hsz]; omega)
  generalize a.eval = ρ at ex ey ez ⊢
  simp only [execOp, ex, ey, ez, Option.map]
  rw [Sem.run_bind, run_sliceAt_str hu, this]
  simp [Result.andThen, ByteArray.extract_mk]
theorem RO.sliceStrTo {T : TypeId} {x z : Operand} {l : List UInt8} {k' : IntKind} {j : Nat} (hx : ev κ x = some (str l)) (hz : ev κ z = some (.int k' (j : Int))) (hT : isStr P T = true) (hj : j ≤ l.length) : RO P κ F (.slice T x none (some z) none) (str (l.take j)) := by
  intro n' d' a w dst ty pos after guard hf hs
  have ex := hf.ev hx; have ez := hf.ev hz
  have hu := isStr_ok hT
  have hsz : (ByteArray.mk l.toArray).size = l.length := rfl
  have := run_slice_string_h w T ⟨l.toArray⟩ hu k' (j : Int) (by omega) (by rw [hsz]; omega)
  generalize a.eval = ρ at ex ez ⊢
  simp only [execOp, ex, ez, Option.map]
  rw [Sem.run_bind, run_sliceAt_str hu, this]
  simp [Result.andThen, ByteArray.extract_mk]
theorem RO.sliceStrFrom {T : TypeId} {x y : Operand} {l : List UInt8} {k : IntKind} {i : Nat} (hx : ev κ x = some (str l)) (hy : ev κ y = some (.int k (i : Int))) (hT : isStr P T = true) (hi : i ≤ l.length) : RO P κ F (.slice T x (some y) none none) (str (l.drop i)) := by
  intro n' d' a w dst ty pos after guard hf hs
  have ex := hf.ev hx; have ey := hf.ev hy
  have hu := isStr_ok hT
  have hsz : (ByteArray.mk l.toArray).size = l.length := rfl
  have := run_slice_string_l w T ⟨l.toArray⟩ hu k (i : Int) (by omega) (by rw [hsz]; omega)
  generalize a.eval = ρ at ex ey ⊢
  simp only [execOp, ex, ey, Option.map]
  rw [Sem.run_bind, run_sliceAt_str hu, this]
  simp [Result.andThen, ByteArray.extract_mk, hsz]
  exact List.take_of_length_le (by simp)

theorem RO.concat {t u : TypeId} {x y : Operand} {l m : List UInt8} (hx : ev κ x = some (str l)) (hy : ev κ y = some (str m)) (hl : l.length + m.length ≤ 9223372036854775807) : RO P κ F (.binOp .add t x y u) (str (l ++ m)) := by
  intro n' d' a w dst ty pos after guard hf hs
  have ex := hf.ev hx; have ey := hf.ev hy
  have hmax : IntKind.i64.max = 9223372036854775807 := rfl
  have h1 : ¬ (((ByteArray.mk l.toArray).size + (ByteArray.mk m.toArray).size : Nat) : Int) > IntKind.i64.max := by
    have h2 : (ByteArray.mk l.toArray).size = l.length := rfl
    have h3 : (ByteArray.mk m.toArray).size = m.length := rfl
    rw [h2, h3, hmax]; omega
  have h4 : ByteArray.mk l.toArray ++ ByteArray.mk m.toArray = ⟨(l ++ m).toArray⟩ := by
    apply ByteArray.ext; simp
  generalize a.eval = ρ at ex ey ⊢
  simp only [execOp, ex, ey, binOp, eqGuard, Op.stringOp, h1, if_false, h4]
  simp
theorem str_toList (l : List UInt8) : (ByteArray.mk l.toArray).toList = l := by
  have : ∀ (b : ByteArray), b.toList = b.data.toList := by
    intro b; exact ByteArray.toList_eq b
  rw [this]
theorem RO.eqlStr {t u : TypeId} {x y : Operand} {l m : List UInt8} (hx : ev κ x = some (str l)) (hy : ev κ y = some (str m)) : RO P κ F (.binOp .eql t x y u) (.bool (decide (l = m))) := by
  intro n' d' a w dst ty pos after guard hf hs
  have ex := hf.ev hx; have ey := hf.ev hy
  generalize a.eval = ρ at ex ey ⊢
  simp only [execOp, ex, ey, binOp, eqGuard, Op.stringOp, str_toList]
  have : (l == m) = decide (l = m) := by rw [Bool.eq_iff_iff]; simp
  simp [this]
theorem RO.neqStr {t u : TypeId} {x y : Operand} {l m : List UInt8} (hx : ev κ x = some (str l)) (hy : ev κ y = some (str m)) : RO P κ F (.binOp .neq t x y u) (.bool (!decide (l = m))) := by
  intro n' d' a w dst ty pos after guard hf hs
  have ex := hf.ev hx; have ey := hf.ev hy
  generalize a.eval = ρ at ex ey ⊢
  simp only [execOp, ex, ey, binOp, eqGuard, Op.stringOp, str_toList]
  have : (l == m) = decide (l = m) := by rw [Bool.eq_iff_iff]; simp
  simp [this]

theorem RO.convInt {S T : TypeId} {x : Operand} {k : IntKind} {k' : IntKind} {m : Int} (hx : ev κ x = some (.int k' m)) (hS : (P.underlying S).isSome = true) (hT : intK P T = some k) : RO P κ F (.convert S T x) (.int k (k.wrap m)) := by
  intro n' d' a w dst ty pos after guard hf hs
  have ex := hf.ev hx
  have hu := intK_ok hT
  obtain ⟨ds, hds⟩ := Option.isSome_iff_exists.1 hS
  generalize a.eval = ρ at ex ⊢
  simp only [execOp, ex]
  simp [convert, run_underlying hds, run_underlying hu, Conv.intToInt]
theorem RO.convInt64 {S T : TypeId} {x : Operand} {k' : IntKind} {m : Int} (hx : ev κ x = some (.int k' m)) (hS : (P.underlying S).isSome = true) (hT : intK P T = some .i64) (hm : -9223372036854775808 ≤ m ∧ m ≤ 9223372036854775807) : RO P κ F (.convert S T x) (.int .i64 m) := by
  have := RO.convInt (P := P) (F := F) hx hS hT
  rwa [wrap_i64 hm] at this

abbrev by8 (b : UInt8) : List Value := [.int .u8 b.toNat]
theorem by8_el : El by8 1 := ⟨fun _ => rfl, fun _ => rfl, by decide⟩

theorem subl_one {l : List Value} {k : Nat} {v : Value} (h : subl l k 1 = some [v]) : l[k]? = some v := by
  have := (subl_spec h).2 0 (by omega)
  simpa using this

theorem sA_bytes {T : Nat} {l : List UInt8} {w : World} {b off : Nat} {cs : List Value} {fr : Nat × Nat} (hb : w.heap[b]? = some (clf cs T fr)) (h : ∀ i a, l[i]? = some a → subl cs (off + i * 1) 1 = some (by8 a)) :
    ∀ j x, l[j]? = some x → w.cell? ((⟨b, off, none⟩ : Addr).add j) = some (.int .u8 x.toNat) := by
  intro j x hj
  have h1 := subl_one (h j x hj)
  rw [Addr.add_none, cell_of hb]
  simpa using h1

/-- string(bytes) -/
theorem RO.bytesStr {S T e cp T' : Nat} {g : Bool} {s : Nat} {x : Operand} {p : Option Addr} {l : List UInt8} (hx : ev κ x = some (.slice p l.length cp)) (hS : slt P S = some (e, g, s)) (he : intK P e = some .u8) (hT : isStr P T = true) (hA : F.has (sA T' 1 by8 p cp l)) : RO P κ F (.convert S T x) (str l) := by
  intro n' d' a w dst ty pos after guard hf hs
  have ex := hf.ev hx
  have hu := isStr_ok hT
  have hse : P.underlying S = some (.slice e) := by
    unfold slt at hS
    split at hS
    · rename_i e' h'
      split at hS <;> simp_all
    · cases hS
  have hee := intK_ok he
  generalize a.eval = ρ at ex ⊢
  simp only [execOp, ex]
  rcases Frm.has_sA hA hs with ⟨h2, h3⟩ | ⟨b, off, cs, fr, h1, h2, hz, h3, h4, h5⟩
  · subst h2
    cases p with
    | none =>
      have := run_convert_bytes_nil w S e hse hee 0 cp T hu
      simp only [List.length_nil]
      rw [Sem.run_bind, this]
      rfl
    | some a =>
      rw [Sem.run_bind, run_convert_bytes_back w S T e a cp [] hse hee hu (fun j hj => by simp at hj)]
      rfl
  · subst h1
    have := sA_bytes (T := T') h2 h5
    rw [Sem.run_bind, run_convert_bytes_back w S T e ⟨b, off, none⟩ cp l hse hee hu (fun j hj => this j _ (List.getElem?_eq_getElem hj))]
    rfl
theorem RD.bytesStr {S T e cp T' : Nat} {g : Bool} {s : Nat} {x : Operand} {p : Option Addr} {l : List UInt8} {R : List Assn} (hx : ev κ x = some (.slice p l.length cp)) (hS : slt P S = some (e, g, s)) (he : intK P e = some .u8) (hT : isStr P T = true) (hA : Pick H (sA T' 1 by8 p cp l) R) : RD P κ H F (.convert S T x) (str l) :=
  RD.ofHas hA fun _ _ h => RO.bytesStr hx hS he hT h

/-! pointers -/
theorem ptrT_ok {T e : Nat} (h : ptrT P T = some e) : P.underlying T = some (.pointer e) := by
  unfold ptrT at h; split at h <;> simp_all
theorem RO.eqlPtrNil {T e : Nat} {u : TypeId} {x y : Operand} {p : Option Addr} (hx : ev κ x = some (.pointer p)) (hy : ev κ y = some (.pointer none)) (hT : ptrT P T = some e) : RO P κ F (.binOp .eql T x y u) (.bool p.isNone) := by
  intro n' d' a w dst ty pos after guard hf hs
  have ex := hf.ev hx; have ey := hf.ev hy
  have hu := ptrT_ok hT
  have h : ∀ d : Nat, (Op.equalIn (d + 1) T (.pointer p) (.pointer none)).run P w = .ok p.isNone w := fun d => by
    simp only [Op.equalIn]
    rw [Sem.run_bind, run_underlying hu]
    cases p <;> simp [Result.andThen]
  generalize a.eval = ρ at ex ey ⊢
  simp only [execOp, ex, ey, binOp, eqGuard]
  cases p <;> simp [Op.equal, Op.maxDepth, h 9999]
theorem RO.neqPtrNil {T e : Nat} {u : TypeId} {x y : Operand} {p : Option Addr} (hx : ev κ x = some (.pointer p)) (hy : ev κ y = some (.pointer none)) (hT : ptrT P T = some e) : RO P κ F (.binOp .neq T x y u) (.bool p.isSome) := by
  intro n' d' a w dst ty pos after guard hf hs
  have ex := hf.ev hx; have ey := hf.ev hy
  have hu := ptrT_ok hT
  have h : ∀ d : Nat, (Op.equalIn (d + 1) T (.pointer p) (.pointer none)).run P w = .ok p.isNone w := fun d => by
    simp only [Op.equalIn]
    rw [Sem.run_bind, run_underlying hu]
    cases p <;> simp [Result.andThen]
  generalize a.eval = ρ at ex ey ⊢
  simp only [execOp, ex, ey, binOp, eqGuard]
  cases p <;> simp [Op.equal, Op.maxDepth, h 9999]
theorem RO.neqPtrSame {T e : Nat} {u : TypeId} {x y : Operand} {p : Addr} (hx : ev κ x = some (.pointer (some p))) (hy : ev κ y = some (.pointer (some p))) (hT : ptrT P T = some e) (hi : szd P e = true) : RO P κ F (.binOp .neq T x y u) (.bool false) := by
  intro n' d' a w dst ty pos after guard hf hs
  have ex := hf.ev hx; have ey := hf.ev hy
  obtain ⟨j, hj⟩ : ∃ j, P.info? e = some j := by
    unfold szd at hi; split at hi
    · exact ⟨_, by assumption⟩
    · cases hi
  have := Lib.run_neq_ptr_same (P := P) w p (ptrT_ok hT) hj
  generalize a.eval = ρ at ex ey ⊢
  simp only [execOp, ex, ey, eqGuard]
  simp [this]
theorem isUns_ok {T : Nat} (h : isUns P T = true) : P.underlying T = some .unsafePointer := by
  unfold isUns at h; split at h <;> simp_all
theorem RD.toUnsafe {S T t T' b k : Nat} {cs : List Value} {x : Operand} {R : List Assn} (hx : ev κ x = some (.pointer (some ⟨b, k, none⟩))) (hS : ptrT P S = some t) (hT : isUns P T = true) (ht : szd P t = true) (hA : Pick H (pt b (cl cs T')) R) (hk : k < cs.length) :
    RD P κ H F (.convert S T x) (.pointer (some ⟨b, k, none⟩)) := by
  intro n' d' a w dst ty pos after guard hf hs
  have ex := hf.ev hx
  have hb := (hs.pick hA).pt_head
  unfold szd at ht
  cases hi : P.info? t with
  | none => simp [hi] at ht
  | some j =>
    simp only [hi] at ht
    have := Lib.run_to_unsafe (P := P) w (e := T') (cells := cs.length) ⟨b, k, none⟩ (ptrT_ok hS) (isUns_ok hT) hi (by simpa using ht) (by simp [World.shape?, hb, cl]) hk
    generalize a.eval = ρ at ex ⊢
    simp only [execOp, ex]
    simp [this]
theorem RD.fromUnsafe {S T t T' b k : Nat} {cs : List Value} {x : Operand} {R : List Assn} (hx : ev κ x = some (.pointer (some ⟨b, k, none⟩))) (hS : isUns P S = true) (hT : ptrT P T = some t) (ht : szd P t = true) (hA : Pick H (pt b (cl cs T')) R) (hk : liesAt P P.depth T' (cs.length / P.cellsOf T') k t 1 = true) :
    RD P κ H F (.convert S T x) (.pointer (some ⟨b, k, none⟩)) := by
  intro n' d' a w dst ty pos after guard hf hs
  have ex := hf.ev hx
  have hb := (hs.pick hA).pt_head
  obtain ⟨j, hj⟩ : ∃ j, P.info? t = some j := by
    unfold szd at ht; split at ht
    · exact ⟨_, by assumption⟩
    · cases ht
  have := Lib.run_from_unsafe (P := P) w (e := T') (cells := cs.length) ⟨b, k, none⟩ (isUns_ok hS) (ptrT_ok hT) hj (by simp [World.shape?, hb, cl]) hk
  generalize a.eval = ρ at ex ⊢
  simp only [execOp, ex]
  simp [this]

/-- internal/abi.NoEscape -/
theorem RO.noEscape {f : FuncId} {fn : Func} {x : Operand} {v : Value} {ats : Array TypeId} (hx : ev κ x = some v) (hf0 : P.funcs[f]? = some fn) (hname : (fn.name == "runtime.NumGoroutine") = false)
    (hb : fn.body.isNone = true) (hn : Extern.findNext fn = none) (he : Extern.find fn = some Extern.AbiNoEscape.same) : RO P κ F (.call { callee := .value (.func f), args := #[x], argTypes := ats }) v := by
  intro n' d' a w dst ty pos after guard hf hs
  have ex := hf.ev hx
  have := run_callFunc_extern hf0 hname hb hn he #[v] w
  have hg : a.eval (.func f) = .func (.func f) #[] #[] := rfl
  generalize a.eval = ρ at ex hg ⊢
  have h1 : #[x].map ρ = #[v] := by simp [ex]
  simp only [execOp, resolve, h1, hg, Deferred.ofValue]
  simp only [Sem.run_bind, Sem.run_pure, Result.andThen, invoke]
  have h2 : (callFunc f (#[] ++ #[v] ++ #[])).run P w = .ok (.value v) w := by simpa using this.trans (by rw [Lib.run_noEscape]; rfl)
  first | exact h2 | simpa using h2

end Go.Sl
/- The engine, part 13: unsafe.SliceData, unsafe.String (strings.Builder's end). -/
namespace Go.Sl
open Go

variable {P : Program} {n : Nat} {d : List Deferred} {F : Frm} {κ : List (Nat × Value)} {H : List Assn}
variable {Q : Exit → Act → World → Prop} {ops : Array Oper} {rest : List Oper} {c : Code}

theorem RO.sliceDataNil {T : TypeId} {x : Operand} {m cp : Nat} (hx : ev κ x = some (.slice none m cp)) : RO P κ F (.call { callee := .builtin .unsafeSliceData, args := #[x], argTypes := #[T] }) (.pointer none) := by
  intro n' d' a w dst ty pos after guard hf hs
  have ex := hf.ev hx
  generalize a.eval = ρ at ex ⊢
  have h1 : #[x].map ρ = #[.slice none m cp] := by simp [ex]
  simp only [execOp, resolve]
  simp only [Sem.run_bind, Sem.run_pure, Result.andThen, invoke, builtin]
  rw [h1, Lib.run_unsafeSliceData_nil]
theorem RO.sliceData {T : TypeId} {x : Operand} {m cp : Nat} {p : Addr} (hx : ev κ x = some (.slice (some p) m cp)) (hc : cp ≠ 0) : RO P κ F (.call { callee := .builtin .unsafeSliceData, args := #[x], argTypes := #[T] }) (.pointer (some p)) := by
  intro n' d' a w dst ty pos after guard hf hs
  have ex := hf.ev hx
  generalize a.eval = ρ at ex ⊢
  have h1 : #[x].map ρ = #[.slice (some p) m cp] := by simp [ex]
  simp only [execOp, resolve]
  simp only [Sem.run_bind, Sem.run_pure, Result.andThen, invoke, builtin]
  rw [h1, Lib.run_unsafeSliceData_row w _ _ p m cp hc]
theorem RO.unsafeStrNil {T U : TypeId} {x y : Operand} (hx : ev κ x = some (.pointer none)) (hy : ev κ y = some (.int .i64 0)) : RO P κ F (.call { callee := .builtin .unsafeString, args := #[x, y], argTypes := #[T, U] }) (str []) := by
  intro n' d' a w dst ty pos after guard hf hs
  have ex := hf.ev hx; have ey := hf.ev hy
  generalize a.eval = ρ at ex ey ⊢
  have h1 : #[x, y].map ρ = #[.pointer none, .int .i64 0] := by simp [ex, ey]
  simp only [execOp, resolve]
  simp only [Sem.run_bind, Sem.run_pure, Result.andThen, invoke, builtin]
  rw [h1, Lib.run_unsafeString_none]
  rfl

theorem liesAt_bytes' {e : TypeId} (hc : P.cellsOf e = 1) (count off m : Nat) (hn : off + m ≤ count) : liesAt P P.depth e count off e m = true := by
  have hd : P.depth = (2 * (P.types.size + Made.depth) + 1) + 1 := rfl
  rw [hd]
  simp only [liesAt, Bool.or_eq_true]
  left
  rw [hd]
  simp [rowAt, hc, hn, sameLayout]
  exact .inl (Nat.mod_one _)

theorem run_unsafeString_at (w : World) (pt it ty e : TypeId) (hp : P.underlying pt = some (.pointer e)) (hc : P.cellsOf e = 1) (g off cells : Nat) (hsh : w.shape? g = some (e, cells)) (l : List UInt8) (h0 : l ≠ []) (hn : off + l.length ≤ cells) (h63 : l.length ≤ 9223372036854775807)
    (hcell : ∀ j x, l[j]? = some x → w.cell? ((⟨g, off, none⟩ : Addr).add j) = some (.int .u8 x.toNat)) :
    (Builtin.unsafeString_ #[pt, it] ty #[.pointer (some ⟨g, off, none⟩), .int .i64 l.length]).run P w = .ok (.string ⟨l.toArray⟩) (w.freeze ⟨g, off, none⟩ l.length) := by
  have hl : l.length ≠ 0 := by simpa using h0
  have hlb := Lib.run_loadBytes (P := P) w l ⟨g, off, none⟩ .empty hcell
  have hlies := liesAt_bytes' (P := P) hc (cells / P.cellsOf e) off l.length (by rw [hc]; simpa using hn)
  have h63' : ¬ (9223372036854775807 : Int) < (l.length : Int) := by omega
  have hdef : Builtin.unsafeString_ #[pt, it] ty #[.pointer (some ⟨g, off, none⟩), .int .i64 l.length] =
      (do
        let n ← asInt (.int .i64 l.length)
        if n < 0 then runtimePanic (.error "unsafe.String: len out of range")
        if n > IntKind.i64.max then unsupported (.unsafePointer "String: a length above the largest int")
        if n = 0 then pure (.string .empty)
        else if ← variablesAt ⟨g, off, none⟩ (← elemOf pt) n.toNat then do
          let s ← loadBytes ⟨g, off, none⟩ .empty n.toNat
          freeze ⟨g, off, none⟩ n.toNat
          pure (.string s)
        else unsupported (.unsafePointer "String: not so many bytes at ptr")) := rfl
  rw [hdef]
  have hmax : IntKind.i64.max = 9223372036854775807 := rfl
  have hneg : ¬ (l.length : Int) < 0 := by omega
  simp [asInt, asIntOf, hmax, h63', hneg, hl, variablesAt, hsh, elemOf, run_underlying hp, hlies, hlb]

theorem Acts.unsafeStr {T U e : Nat} {x y : Operand} {b off cp : Nat} {l : List UInt8} {R : List Assn} (hx : ev κ x = some (.pointer (some ⟨b, off, none⟩))) (hy : ev κ y = some (.int .i64 l.length)) (hT : ptrT P T = some e) (he : P.cellsOf e = 1) (hl : l ≠ []) (hb : l.length ≤ 9223372036854775807) (hp : Pick H (sA e 1 by8 (some ⟨b, off, none⟩) cp l) R) :
    Acts P κ H F (.call { callee := .builtin .unsafeString, args := #[x, y], argTypes := #[T, U] }) (fun v J => v = some (str l) ∧ J = R) := by
  intro n' d' a w dst ty pos after guard hf hs
  have hs' := hs.pick hp
  obtain ⟨q, hA, hd, hs2⟩ := id hs'
  rcases hA with ⟨h1, _⟩ | ⟨b', off', cs, fr, h1, h2, hz, h3, h4, h5⟩
  · exact absurd h1 hl
  cases h1
  have hs3 : Sat (pt b (clf cs e fr) :: R) F w := ⟨q, h2, hd, hs2⟩
  have hb' := hs3.pt_head
  have hrun := run_unsafeString_at (P := P) w T U ty e (ptrT_ok hT) he b off cs.length (by simp [World.shape?, hb']) l hl (by omega) hb (sA_bytes hb' h5)
  refine ⟨_, _, w.freeze ⟨b, off, none⟩ l.length, R, ⟨rfl, rfl⟩, ?_, .inr rfl, .inl ?_⟩
  · have hne : l.length ≠ 0 := by simpa using hl
    have hfo : ∃ o', (w.freeze ⟨b, off, none⟩ l.length).heap[b]? = some o' := by
      simp only [World.freeze, if_neg hne]
      rw [Array.getElem?_modify]
      simp [hb']
    obtain ⟨o', ho'⟩ := hfo
    refine (Sat.put (o' := o') hs3 ho' (fun k hk => ?_) ?_ ?_ ?_).drop
    · simp only [World.freeze, if_neg hne]
      rw [Array.getElem?_modify]
      rw [if_neg (fun h => hk h.symm)]
    · unfold World.freeze; split <;> rfl
    · unfold World.freeze; split <;> rfl
    · unfold World.freeze; split <;> rfl
  · have ex := hf.ev hx; have ey := hf.ev hy
    generalize a.eval = ρ at ex ey ⊢
    have exy : #[x, y].map ρ = #[.pointer (some ⟨b, off, none⟩), .int .i64 l.length] := by simp [ex, ey]
    simp only [execOp, resolve, exy, Sem.run_bind, Sem.run_pure, Result.andThen, invoke, builtin]
    rw [hrun]
end Go.Sl
