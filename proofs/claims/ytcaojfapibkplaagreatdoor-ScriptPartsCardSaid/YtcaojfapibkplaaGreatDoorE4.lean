/- The engine, part 4: steps side by side, packed memory, the law from its arguments. -/
import Derived.Test.YtcaojfapibkplaaGreatDoorE3
import Derived.ReadAgain
import Derived.ProofKit
import Derived.Test.YtcaojfapibkplaaGreatDoorE1
import Derived.Test.YtcaojfapibkplaaGreatDoorE2
/- The engine, part 21: operations of a region that act, side by side: each thread's own, and what is whole again behind each step. -/
namespace Go.Sl
open Go
variable {P : Program} {n : Nat} {d : List Deferred} {F : Frm} {κ : List (Nat × Value)} {H : List Assn} {Q : Exit → Act → World → Prop}

theorem Sat.perm {X Y : List Assn} (p : X.Perm Y) : ∀ {F : Frm} {w : World}, Sat X F w → Sat Y F w := by
  induction p with
  | nil => exact id
  | cons x _ ih => exact fun h => h.under fun _ => ih
  | swap x y l => exact fun h => h.swap
  | trans _ _ ih1 ih2 => exact fun h => ih2 (ih1 h)

def addS (s : Option Nat) (v : Value) (κ : List (Nat × Value)) : List (Nat × Value) := match s with | some s => (s, v) :: κ | none => κ

/-- A thread of operations: I is whole again behind each. -/
def TH (P : Program) (ops : List Oper) (n : Nat) (d : List Deferred) (F : Frm) (I : List Assn) (Φ : List (Nat × Value) → List Assn → Prop) : List Nat → List (Nat × Value) → List Assn → Prop
  | [], κ, H => Φ κ H
  | i :: is, κ, H => ∃ o, ops[i]? = some o ∧ o.guard = none ∧ ∀ G, F.le G → ∀ a w, Fr n κ d a → Sat (I ++ H) G w →
      o.wp P a w (fun a' w' => ∃ v H', a' = a.put o.dst v ∧ Fr n (addS o.dst v κ) d a' ∧ Sat (I ++ H') G w' ∧ TH P ops n d F I Φ is (addS o.dst v κ) H') (fun _ _ _ => False)

structure Thr where
  is : List Nat
  D : List Nat
  κ : List (Nat × Value)
  H : List Assn
  Φ : List (Nat × Value) → List Assn → Prop

def AllT (P : Program) (ops : List Oper) (n : Nat) (d : List Deferred) (F : Frm) (I : List Assn) (κ : List (Nat × Value)) : List (List Nat × List Assn × (List (Nat × Value) → List Assn → Prop)) → Prop
  | [] => True
  | t :: r => TH P ops n d F I (fun κ' H' => ∃ own, κ' = own ++ κ ∧ t.2.2 own H') t.1 κ t.2.1 ∧ AllT P ops n d F I κ r
def FinT (K : List (Nat × Value) → List Assn → Prop) : List (List Nat × List Assn × (List (Nat × Value) → List Assn → Prop)) → List (Nat × Value) → List Assn → Prop
  | [], κ, H => K κ H
  | t :: r, κ, H => ∀ own H', t.2.2 own H' → FinT K r (own ++ κ) (H ++ H')

def setAll (listed : List Bool) : List Nat → List Bool
  | [] => listed
  | i :: r => setAll (listed.set i true) r
def dstsL (ops : List Oper) : List Nat → List Nat
  | [] => []
  | i :: r => dstAt ops i ++ dstsL ops r
def apartN : List Nat → List Nat → Bool
  | [], _ => true
  | x :: r, l => bif memN x l then false else apartN r l
def noKs (κ : List (Nat × Value)) : List Nat → Bool
  | [] => true
  | s :: r => bif (lk κ s).isNone then noKs κ r else false
/-- Each is ready, once those before it have come up. -/
def chainOk (ops : List Oper) : List Bool → List Nat → Bool
  | _, [] => true
  | listed, i :: r => bif readyL ops listed i && Nat.blt i ops.length && Nat.blt i listed.length then chainOk ops (listed.set i true) r else false
/-- Each stands right behind the one before it. -/
def linked (ops : List Oper) : List Nat → Bool
  | [] => true
  | [_] => true
  | x :: y :: r => bif memN x (depsL ops y) then linked ops (y :: r) else false
/-- Op j stands behind op l: at once, or behind one that does. -/
def bh (ops : List Oper) : Nat → Nat → Nat → Bool
  | 0, j, l => memN l (depsL ops j)
  | k + 1, j, l => bif bh ops k j l then true else (depsL ops j).any fun m => bh ops k m l
def behind (ops : List Oper) (j l : Nat) : Bool := bh ops 2 j l
def lastN : List Nat → Option Nat
  | [] => none
  | [x] => some x
  | _ :: y :: r => lastN (y :: r)
def restOk (ops : List Oper) (listed : List Bool) (ths : List (List Nat)) : Bool :=
  (List.range ops.length).all fun j => getB listed j true || ths.any (memN j) || ths.all fun t => match lastN t with | some l => behind ops j l | none => false
def pairsOk : List (List Nat) → Bool
  | [] => true
  | D :: r => r.all (fun E => apartN D E && apartN E D) && pairsOk r
def parOk (ops : List Oper) (listed : List Bool) (κ : List (Nat × Value)) (ths : List (List Nat)) : Bool :=
  closedL listed ops listed && ths.all (fun t => chainOk ops listed t && linked ops t && noKs κ (dstsL ops t)) && restOk ops listed ths && pairsOk (ths.map (dstsL ops)) && pairsOk ths && !(ths.any List.isEmpty)

theorem memN_iff (x : Nat) (l : List Nat) : memN x l = true ↔ x ∈ l := by rw [← memN_eq]; simp
theorem apartN_spec : ∀ {D E : List Nat}, apartN D E = true → ∀ x ∈ D, x ∉ E
  | [], _, _, x, h => by cases h
  | y :: r, E, h, x, hx => by
    simp only [apartN] at h
    cases hm : memN y E with
    | true => simp [hm] at h
    | false =>
      simp only [hm, cond_false] at h
      rcases List.mem_cons.1 hx with rfl | hx
      · intro hx; rw [(memN_iff _ _).2 hx] at hm; cases hm
      · exact apartN_spec h x hx
theorem noKs_spec {κ : List (Nat × Value)} : ∀ {D : List Nat}, noKs κ D = true → ∀ s ∈ D, lk κ s = none
  | [], _, s, h => by cases h
  | y :: r, h, s, hs => by
    simp only [noKs] at h
    cases hn : (lk κ y).isNone with
    | false => simp [hn] at h
    | true =>
      simp only [hn, cond_true] at h
      rcases List.mem_cons.1 hs with rfl | hs
      · simpa using hn
      · exact noKs_spec h s hs
theorem lk_app2 (x y : List (Nat × Value)) (s : Nat) : lk (x ++ y) s = (lk x s).or (lk y s) := by
  induction x with
  | nil => simp [lk]
  | cons p r ih =>
    obtain ⟨k, v⟩ := p
    simp only [List.cons_append, lk]
    cases Nat.beq k s <;> simp [ih]
theorem Fr.merge {own κ κ0 : List (Nat × Value)} {a : Act} (h1 : Fr n (own ++ κ0) d a) (h2 : Fr n κ d a) : Fr n (own ++ κ) d a :=
  ⟨h1.size, fun s v hs => by
    rw [lk_app2] at hs
    cases ho : lk own s with
    | some u => rw [ho] at hs; simp at hs; subst hs; exact h1.get s u (by rw [lk_app2, ho]; rfl)
    | none => rw [ho] at hs; simp at hs; exact h2.get s v hs, h1.defers⟩
theorem Fr.other {a : Act} {s : Option Nat} {v : Value} (h : Fr n κ d a) (hs : ∀ t, s = some t → lk κ t = none) : Fr n κ d (a.put s v) := by
  cases s with
  | none => exact h
  | some s =>
    refine ⟨by simp [Act.put, h.size], fun t u ht => ?_, h.defers⟩
    have hne : s ≠ t := fun e => by subst e; rw [hs s rfl] at ht; cases ht
    simp only [Act.put]
    rw [Array.getElem?_setIfInBounds_ne hne]; exact h.get t u ht

/-- What holds while the threads run. -/
structure Run (P : Program) (ops : List Oper) (n : Nat) (d : List Deferred) (F : Frm) (I : List Assn) (listedN : List Bool) (listed : List Bool) (ts : List Thr) : Prop where
  closed : Closed .any ops.toArray listed.toArray
  len : listed.length = ops.length
  chain : ∀ t ∈ ts, chainOk ops listed t.is = true
  link : ∀ t ∈ ts, linked ops t.is = true
  rest : ∀ j, j < ops.length → getB listed j true = false → (∃ t ∈ ts, j ∈ t.is) ∨ ∀ t ∈ ts, ∀ l, lastN t.is = some l → behind ops j l = true
  ends : setAll listed (ts.flatMap (·.is)) = listedN
  dst : ∀ t ∈ ts, ∀ i ∈ t.is, ∀ o, ops[i]? = some o → ∀ s, o.dst = some s → s ∈ t.D
  pair : ts.Pairwise fun t u => (∀ s ∈ t.D, lk u.κ s = none) ∧ (∀ s ∈ u.D, lk t.κ s = none)
  dpair : ts.Pairwise fun t u => (∀ s ∈ t.D, s ∉ u.D) ∧ (∀ s ∈ u.D, s ∉ t.D)
  ipair : ts.Pairwise fun t u => ∀ i ∈ t.is, i ∉ u.is
  th : ∀ t ∈ ts, TH P ops n d F I t.Φ t.is t.κ t.H

theorem getB_set : ∀ (l : List Bool) (i j : Nat) (b : Bool), i ≠ j → getB (l.set i true) j b = getB l j b
  | [], _, _, _, _ => by simp
  | _ :: _, 0, 0, _, h => absurd rfl h
  | _ :: _, 0, _ + 1, _, _ => rfl
  | _ :: _, _ + 1, 0, _, _ => rfl
  | _ :: l, i + 1, j + 1, b, h => by simp only [List.set_cons_succ, getB]; exact getB_set l i j b (by omega)
theorem getB_set_self : ∀ (l : List Bool) (i : Nat) (b : Bool), i < l.length → getB (l.set i true) i b = true
  | [], _, _, h => by simp at h
  | _ :: _, 0, _, _ => rfl
  | _ :: l, i + 1, b, h => by simp only [List.set_cons_succ, getB]; exact getB_set_self l i b (by simpa using h)
theorem getB_def {l : List Bool} {i : Nat} (h : i < l.length) (b c : Bool) : getB l i b = getB l i c := by
  induction l generalizing i with
  | nil => simp at h
  | cons x l ih => cases i with
    | zero => rfl
    | succ i => exact ih (by simpa using h)
theorem okEdges_set {l : List Bool} {i : Nat} : ∀ {es : List Edge}, okEdges l es = true → okEdges (l.set i true) es = true
  | [], _ => rfl
  | e :: r, h => by
    simp only [okEdges] at h ⊢
    cases hb : bindE e with
    | false => simp only [hb, cond_false] at h ⊢; exact okEdges_set h
    | true =>
      simp only [hb, cond_true] at h ⊢
      cases hg : getB l e.on false with
      | false => simp [hg] at h
      | true =>
        simp only [hg, cond_true] at h
        have : getB (l.set i true) e.on false = true := by
          by_cases he : i = e.on
          · subst he
            refine getB_set_self l _ _ ?_
            rcases Nat.lt_or_ge e.on l.length with h' | h'
            · exact h'
            · have : ∀ (l : List Bool) (k : Nat), l.length ≤ k → getB l k false = false := by
                intro l; induction l with
                | nil => intro k _; rfl
                | cons x l ih => intro k hk; cases k with
                  | zero => simp at hk
                  | succ k => exact ih k (by simpa using hk)
              rw [this l _ h'] at hg; cases hg
          · rw [getB_set _ _ _ _ he]; exact hg
        rw [this, cond_true]; exact okEdges_set h
theorem readyAt_get {l : List Bool} : ∀ {ops : List Oper} {i : Nat} {o : Oper}, ops[i]? = some o → readyAt l ops i = okEdges l o.after.toList
  | [], _, _, h => by simp at h
  | _ :: _, 0, _, h => by simp at h; subst h; rfl
  | _ :: r, i + 1, o, h => by simp only [readyAt]; exact readyAt_get (by simpa using h)
theorem readyL_set {ops : List Oper} {l : List Bool} {i j : Nat} (hj : j < ops.length) (h : readyL ops l j = true) (hne : i ≠ j) : readyL ops (l.set i true) j = true := by
  have ho : ops[j]? = some ops[j] := List.getElem?_eq_getElem hj
  simp only [readyL, readyAt_get ho] at h ⊢
  rw [getB_set _ _ _ _ hne]
  cases hg : getB l j true with
  | true => simp [hg] at h
  | false => simp only [hg, cond_false] at h ⊢; exact okEdges_set h
theorem chainOk_set {ops : List Oper} : ∀ {is : List Nat} {l : List Bool} {i : Nat}, chainOk ops l is = true → i ∉ is → chainOk ops (l.set i true) is = true
  | [], _, _, _, _ => rfl
  | j :: r, l, i, h, hi => by
    simp only [chainOk] at h ⊢
    cases hc : (readyL ops l j && Nat.blt j ops.length && Nat.blt j l.length) with
    | false => rw [hc] at h; cases h
    | true =>
      rw [hc, cond_true] at h
      simp only [Bool.and_eq_true] at hc
      have hne : i ≠ j := fun e => hi (by simp [e])
      have h1 := readyL_set (by simpa using hc.1.2) hc.1.1 hne
      simp only [h1, hc.1.2, List.length_set, hc.2, Bool.and_self, cond_true]
      rw [List.set_comm _ _ hne]
      exact chainOk_set h (fun e => hi (by simp [e]))
theorem setAll_set : ∀ (is : List Nat) (l : List Bool) (i : Nat), setAll (l.set i true) is = (setAll l is).set i true
  | [], _, _ => rfl
  | j :: r, l, i => by
    simp only [setAll]
    rw [← setAll_set r]
    by_cases h : i = j
    · subst h; rfl
    · rw [List.set_comm _ _ h]
theorem setAll_append : ∀ (x y : List Nat) (l : List Bool), setAll l (x ++ y) = setAll (setAll l x) y
  | [], _, _ => rfl
  | i :: r, y, l => by simp only [List.cons_append, setAll]; exact setAll_append r y _

theorem mem_readys {ops : List Oper} {l : List Bool} {j : Nat} : j ∈ readys ops l ↔ j < ops.length ∧ readyL ops l j = true := by simp [readys]
theorem readyL_deps {ops : List Oper} {l : List Bool} {j : Nat} (hj : j < ops.length) (h : readyL ops l j = true) : ∀ k ∈ depsL ops j, getB l k false = true := by
  have ho : ops[j]? = some ops[j] := List.getElem?_eq_getElem hj
  simp only [readyL, readyAt_get ho] at h
  cases hg : getB l j true with
  | true => simp [hg] at h
  | false =>
    simp only [hg, cond_false] at h
    intro k hk
    unfold depsL at hk
    rw [ho] at hk
    simp only [List.mem_map, List.mem_filter] at hk
    obtain ⟨e, ⟨he, hb⟩, rfl⟩ := hk
    rw [← okEdges_eq] at h
    simp only [List.all_eq_true] at h
    have := h e he
    rw [bindE_eq] at hb
    rw [bindE_eq, getB_eq, hb] at this
    simpa using this
theorem getB_ft {l : List Bool} {k : Nat} (h1 : getB l k false = true) (h2 : getB l k true = false) : False := by
  induction l generalizing k with
  | nil => cases h1
  | cons x l ih => cases k with
    | zero => rw [show getB (x :: l) 0 false = x from rfl] at h1; rw [show getB (x :: l) 0 true = x from rfl, h1] at h2; cases h2
    | succ k => exact ih h1 h2
theorem chainOk_unl {ops : List Oper} : ∀ {is : List Nat} {l : List Bool}, chainOk ops l is = true → ∀ i ∈ is, getB l i true = false ∧ i < ops.length
  | [], _, _, i, hi => by cases hi
  | j :: r, l, h, i, hi => by
    simp only [chainOk] at h
    cases hc : (readyL ops l j && Nat.blt j ops.length && Nat.blt j l.length) with
    | false => rw [hc] at h; cases h
    | true =>
      rw [hc, cond_true] at h
      simp only [Bool.and_eq_true] at hc
      rcases List.mem_cons.1 hi with rfl | hi
      · refine ⟨?_, by simpa using hc.1.2⟩
        have := hc.1.1
        simp only [readyL] at this
        cases hg : getB l i true with
        | true => simp [hg] at this
        | false => rfl
      · obtain ⟨h1, h2⟩ := chainOk_unl h i hi
        refine ⟨?_, h2⟩
        by_cases hji : j = i
        · subst hji
          rw [getB_set_self _ _ _ (by simpa using hc.2)] at h1; cases h1
        · rwa [getB_set _ _ _ _ hji] at h1
theorem lastN_mem : ∀ {l : List Nat} {x : Nat}, lastN l = some x → x ∈ l
  | [], _, h => by cases h
  | [y], x, h => by simp [lastN] at h; simp [h]
  | _ :: y :: r, x, h => List.mem_cons_of_mem _ (lastN_mem (l := y :: r) h)
theorem lastN_some : ∀ {l : List Nat}, l ≠ [] → ∃ x, lastN l = some x
  | [], h => absurd rfl h
  | [y], _ => ⟨y, rfl⟩
  | _ :: y :: r, _ => lastN_some (l := y :: r) (by simp)
/-- Not the first of a thread: not ready. -/
theorem linked_dep {ops : List Oper} : ∀ {is : List Nat}, linked ops is = true → ∀ j ∈ is.tail, ∃ x ∈ is, x ∈ depsL ops j
  | [], _, j, h => by cases h
  | [_], _, j, h => by cases h
  | x :: y :: r, h, j, hj => by
    simp only [linked] at h
    cases hm : memN x (depsL ops y) with
    | false => simp [hm] at h
    | true =>
      simp only [hm, cond_true] at h
      simp only [List.tail_cons] at hj
      rcases List.mem_cons.1 hj with rfl | hj
      · exact ⟨x, by simp, (memN_iff _ _).1 hm⟩
      · obtain ⟨z, h1, h2⟩ := linked_dep h j (by simpa using hj)
        exact ⟨z, List.mem_cons_of_mem _ h1, h2⟩
theorem linked_tail {ops : List Oper} {x : Nat} {r : List Nat} (h : linked ops (x :: r) = true) : linked ops r = true := by
  cases r with
  | nil => rfl
  | cons y r =>
    simp only [linked] at h
    cases hm : memN x (depsL ops y) with
    | false => simp [hm] at h
    | true => simpa [hm] using h

theorem closed_deps {ops : List Oper} {listed : List Bool} (hc : Closed .any ops.toArray listed.toArray) {k : Nat} (hk : getB listed k false = true) : ∀ l ∈ depsL ops k, getB listed l false = true := by
  intro l hb
  have hkl : k < ops.length := by
    rcases Nat.lt_or_ge k ops.length with h' | h'
    · exact h'
    · unfold depsL at hb; rw [List.getElem?_eq_none h'] at hb; cases hb
  have ho : ops[k]? = some ops[k] := List.getElem?_eq_getElem hkl
  unfold depsL at hb
  rw [ho] at hb
  simp only [List.mem_map, List.mem_filter] at hb
  obtain ⟨e, ⟨he, hbi⟩, hon⟩ := hb
  have := hc k ops[k] (by simp) (by rw [getB_eq]; exact hk) e (by simpa using he) (by rwa [bindE_eq] at *)
  rw [getB_eq, hon] at this
  exact this
theorem bh_spec {ops : List Oper} {listed : List Bool} (hc : Closed .any ops.toArray listed.toArray) : ∀ (k j l : Nat), bh ops k j l = true → (∀ m ∈ depsL ops j, getB listed m false = true) → getB listed l false = true
  | 0, j, l, h, hd => hd l ((memN_iff _ _).1 h)
  | k + 1, j, l, h, hd => by
    simp only [bh] at h
    cases h1 : bh ops k j l with
    | true => exact bh_spec hc k j l h1 hd
    | false =>
      simp only [h1, cond_false, List.any_eq_true] at h
      obtain ⟨m, hm, h2⟩ := h
      exact bh_spec hc k m l h2 (closed_deps hc (hd m hm))

theorem Run.head {ops : List Oper} {I : List Assn} {listedN listed : List Bool} {ts : List Thr} (r : Run P ops n d F I listedN listed ts) (hne : ∃ t ∈ ts, t.is ≠ []) {j : Nat} (hj : j ∈ readys ops listed) : ∃ t ∈ ts, ∃ is, t.is = j :: is := by
  obtain ⟨hlt, hr⟩ := mem_readys.1 hj
  have hdeps := readyL_deps hlt hr
  have hun : getB listed j true = false := by
    simp only [readyL] at hr
    cases hg : getB listed j true with
    | true => simp [hg] at hr
    | false => rfl
  rcases r.rest j hlt hun with ⟨t, ht, hjt⟩ | hall
  · cases his : t.is with
    | nil => rw [his] at hjt; cases hjt
    | cons x is =>
      rw [his] at hjt
      rcases List.mem_cons.1 hjt with rfl | hjt
      · exact ⟨t, ht, is, his⟩
      · exfalso
        obtain ⟨x', hx', hd⟩ := linked_dep (r.link t ht) j (by rw [his]; simpa using hjt)
        have h1 := hdeps x' hd
        exact getB_ft h1 (chainOk_unl (r.chain t ht) x' hx').1
  · exfalso
    obtain ⟨t, ht, hne⟩ := hne
    obtain ⟨l, hl⟩ := lastN_some hne
    have hb := hall t ht l hl
    have hlu := (chainOk_unl (r.chain t ht) l (lastN_mem hl)).1
    exact getB_ft (bh_spec r.closed 2 j l hb hdeps) hlu

theorem Run.step {ops : List Oper} {I : List Assn} {listedN listed : List Bool} {pre post : List Thr} {t : Thr} {i : Nat} {is : List Nat} {o : Oper} {v : Value} {H' : List Assn} (r : Run P ops n d F I listedN listed (pre ++ t :: post)) (his : t.is = i :: is) (ho : ops[i]? = some o)
    (hth : TH P ops n d F I t.Φ is (addS o.dst v t.κ) H') : Run P ops n d F I listedN (listed.set i true) (pre ++ ⟨is, t.D, addS o.dst v t.κ, H', t.Φ⟩ :: post) := by
  have ht : t ∈ pre ++ t :: post := by simp
  have hch := r.chain t ht
  rw [his] at hch
  simp only [chainOk] at hch
  have hc : (readyL ops listed i && Nat.blt i ops.length && Nat.blt i listed.length) = true := by
    cases hc : (readyL ops listed i && Nat.blt i ops.length && Nat.blt i listed.length) with
    | false => rw [hc] at hch; cases hch
    | true => rfl
  rw [hc, cond_true] at hch
  simp only [Bool.and_eq_true] at hc
  have hlt : i < ops.length := by simpa using hc.1.2
  have hlt2 : i < listed.length := by simpa using hc.2
  have hmem : i ∈ readys ops listed := mem_readys.2 ⟨hlt, hc.1.1⟩
  have hipair := r.ipair
  rw [List.pairwise_append, List.pairwise_cons] at hipair
  obtain ⟨ip1, ⟨ip2, ip3⟩, ip4⟩ := hipair
  have hit : i ∈ t.is := by rw [his]; simp
  have hnpre : ∀ u ∈ pre, i ∉ u.is := fun u hu hi => ip4 u hu t (by simp) i hi hit
  have hnpost : ∀ u ∈ post, i ∉ u.is := fun u hu => ip2 u hu i hit
  have hdst : ∀ s, o.dst = some s → s ∈ t.D := fun s hs => r.dst t ht i hit o ho s hs
  have hdp := r.dpair
  rw [List.pairwise_append, List.pairwise_cons] at hdp
  obtain ⟨dp1, ⟨dp2, dp3⟩, dp4⟩ := hdp
  have hpp := r.pair
  rw [List.pairwise_append, List.pairwise_cons] at hpp
  obtain ⟨pp1, ⟨pp2, pp3⟩, pp4⟩ := hpp
  have hlk : ∀ s, (∀ s', o.dst = some s' → s ≠ s') → lk t.κ s = none → lk (addS o.dst v t.κ) s = none := by
    intro s hne hs
    unfold addS
    cases hod : o.dst with
    | none => exact hs
    | some s' =>
      simp only [lk]
      cases hb : Nat.beq s' s with
      | true => exact absurd (Nat.eq_of_beq_eq_true hb).symm (hne s' hod)
      | false => simpa using hs
  refine ⟨?_, by simp [r.len], ?_, ?_, ?_, ?_, ?_, ?_, ?_, ?_, ?_⟩
  · have := r.closed.set (j := i) (by rw [readys_eq]; exact hmem)
    simpa using this
  · intro u hu
    simp only [List.mem_append, List.mem_cons] at hu
    rcases hu with hu | rfl | hu
    · exact chainOk_set (r.chain u (by simp [hu])) (hnpre u hu)
    · exact hch
    · exact chainOk_set (r.chain u (by simp [hu])) (hnpost u hu)
  · intro u hu
    simp only [List.mem_append, List.mem_cons] at hu
    rcases hu with hu | rfl | hu
    · exact r.link u (by simp [hu])
    · have := r.link t ht; rw [his] at this; exact linked_tail this
    · exact r.link u (by simp [hu])
  · intro j hj hun
    have hne : i ≠ j := fun e => by subst e; rw [getB_set_self _ _ _ hlt2] at hun; cases hun
    rw [getB_set _ _ _ _ hne] at hun
    rcases r.rest j hj hun with ⟨u, hu, hju⟩ | hall
    · left
      simp only [List.mem_append, List.mem_cons] at hu
      rcases hu with hu | rfl | hu
      · exact ⟨u, by simp [hu], hju⟩
      · refine ⟨⟨is, u.D, addS o.dst v u.κ, H', u.Φ⟩, by simp, ?_⟩
        rw [his] at hju
        rcases List.mem_cons.1 hju with rfl | hju
        · exact absurd rfl hne
        · exact hju
      · exact ⟨u, by simp [hu], hju⟩
    · right
      intro u hu l hl
      simp only [List.mem_append, List.mem_cons] at hu
      rcases hu with hu | rfl | hu
      · exact hall u (by simp [hu]) l hl
      · refine hall t ht l ?_
        rw [his]
        cases is with
        | nil => cases hl
        | cons y is => exact hl
      · exact hall u (by simp [hu]) l hl
  · have h1 := r.ends
    rw [List.flatMap_append, List.flatMap_cons, his, setAll_append] at h1
    rw [List.flatMap_append, List.flatMap_cons, setAll_append, setAll_set]
    simpa [setAll] using h1
  · intro u hu j hj o' ho' s hs
    simp only [List.mem_append, List.mem_cons] at hu
    rcases hu with hu | rfl | hu
    · exact r.dst u (by simp [hu]) j hj o' ho' s hs
    · exact r.dst t ht j (by rw [his]; exact List.mem_cons_of_mem _ hj) o' ho' s hs
    · exact r.dst u (by simp [hu]) j hj o' ho' s hs
  · rw [List.pairwise_append, List.pairwise_cons]
    refine ⟨pp1, ⟨fun u hu => ⟨(pp2 u hu).1, fun s hs => hlk s (fun s' h' e => ?_) ((pp2 u hu).2 s hs)⟩, pp3⟩, ?_⟩
    · subst e; exact (dp2 u hu).2 s hs (hdst s h')
    · intro u hu x hx
      rcases List.mem_cons.1 hx with rfl | hx
      · have := pp4 u hu t (by simp)
        exact ⟨fun s hs => hlk s (fun s' h' e => by subst e; exact (dp4 u hu t (by simp)).1 s hs (hdst s h')) (this.1 s hs), this.2⟩
      · exact pp4 u hu x (by simp [hx])
  · rw [List.pairwise_append, List.pairwise_cons]
    refine ⟨dp1, ⟨dp2, dp3⟩, ?_⟩
    intro u hu x hx
    rcases List.mem_cons.1 hx with rfl | hx
    · exact dp4 u hu t (by simp)
    · exact dp4 u hu x (by simp [hx])
  · rw [List.pairwise_append, List.pairwise_cons]
    refine ⟨ip1, ⟨fun u hu j hj => ip2 u hu j (by rw [his]; exact List.mem_cons_of_mem _ hj), ip3⟩, ?_⟩
    intro u hu x hx
    rcases List.mem_cons.1 hx with rfl | hx
    · intro j hj hji; exact ip4 u hu t (by simp) j hj (by rw [his]; exact List.mem_cons_of_mem _ hji)
    · exact ip4 u hu x (by simp [hx])
  · intro u hu
    simp only [List.mem_append, List.mem_cons] at hu
    rcases hu with hu | rfl | hu
    · exact r.th u (by simp [hu])
    · exact hth
    · exact r.th u (by simp [hu])

theorem Run.go {ops : List Oper} {I : List Assn} {listedN : List Bool} {fuel : Nat} {Φs : List (List (Nat × Value) → List Assn → Prop)} : ∀ (N : Nat) (listed : List Bool) (ts : List Thr) (a : Act) (w : World), (ts.flatMap (·.is)).length = N → Run P ops n d F I listedN listed ts →
    (∀ t ∈ ts, Fr n t.κ d a) → Sat (I ++ ts.flatMap (·.H)) F w →
    (∀ (ts : List Thr) (a : Act) (w : World), (∀ t ∈ ts, t.is = []) → Run P ops n d F I listedN listedN ts → (∀ t ∈ ts, Fr n t.κ d a) → Sat (I ++ ts.flatMap (·.H)) F w → ts.map (·.Φ) = Φs → wpAnyZ P .any ops.toArray (NP Q) F.In fuel listedN.toArray a w) →
    ts.map (·.Φ) = Φs → wpAnyZ P .any ops.toArray (NP Q) F.In (N + fuel) listed.toArray a w := by
  intro N
  induction N with
  | zero =>
    intro listed ts a w hN r hf hs hk hΦ
    have hnil : ∀ t ∈ ts, t.is = [] := by
      intro t ht
      have : ts.flatMap (·.is) = [] := List.eq_nil_of_length_eq_zero hN
      exact List.flatMap_eq_nil_iff.1 this t ht
    have hl : listed = listedN := by
      have := r.ends
      rwa [List.eq_nil_of_length_eq_zero hN] at this
    subst hl
    rw [Nat.zero_add]
    exact hk ts a w hnil r hf hs hΦ
  | succ N ih =>
    intro listed ts a w hN r hf hs hk hΦ
    have hne : ∃ t ∈ ts, t.is ≠ [] := by
      apply Classical.byContradiction
      intro hno
      have : ts.flatMap (·.is) = [] := List.flatMap_eq_nil_iff.2 fun t ht => Classical.byContradiction fun h => hno ⟨t, ht, h⟩
      rw [this] at hN; cases hN
    have hrdy : readys ops listed ≠ [] := by
      obtain ⟨t, ht, hti⟩ := hne
      obtain ⟨i, is, his⟩ := List.exists_cons_of_ne_nil hti
      have hch := r.chain t ht
      rw [his] at hch
      simp only [chainOk] at hch
      have hc : (readyL ops listed i && Nat.blt i ops.length && Nat.blt i listed.length) = true := by
        cases hc : (readyL ops listed i && Nat.blt i ops.length && Nat.blt i listed.length) with
        | false => rw [hc] at hch; cases hch
        | true => rfl
      simp only [Bool.and_eq_true] at hc
      exact List.ne_nil_of_mem (mem_readys.2 ⟨by simpa using hc.1.2, hc.1.1⟩)
    rw [show N + 1 + fuel = (N + fuel) + 1 from by omega]
    refine wpAnyZ_all (rs := readys ops listed) (readys_eq ops listed) hrdy ?_
    intro i hi
    obtain ⟨t, ht, is, his⟩ := r.head hne hi
    obtain ⟨pre, post, rfl⟩ := List.append_of_mem ht
    have hth := r.th t ht
    rw [his] at hth
    obtain ⟨o, ho, hg, hwp⟩ := hth
    -- the thread's own memory in front
    have hperm : (I ++ (pre ++ t :: post).flatMap (·.H)).Perm ((pre ++ post).flatMap (·.H) ++ (I ++ t.H)) := by
      simp only [List.flatMap_append, List.flatMap_cons]
      refine (List.perm_append_comm).trans ?_
      simp only [List.append_assoc]
      refine List.Perm.append_left _ ?_
      refine (List.perm_append_comm (l₁ := t.H)).trans ?_
      simp only [List.append_assoc]
      exact List.Perm.refl _
    obtain ⟨G, hle, _, hsat, hback⟩ := Sat.frame ((pre ++ post).flatMap (·.H)) (hs.perm hperm)
    have h2 := hwp G hle a w (hf t ht) hsat
    have key : ∀ a' w', (∃ v H', a' = a.put o.dst v ∧ Fr n (addS o.dst v t.κ) d a' ∧ Sat (I ++ H') G w' ∧ TH P ops n d F I t.Φ is (addS o.dst v t.κ) H') →
        (brk .any ops.toArray i = true ∨ F.In w') ∧ wpAnyZ P .any ops.toArray (NP Q) F.In (N + fuel) (listed.toArray.setIfInBounds i true) a' w' := by
      rintro a' w' ⟨v, H', rfl, hf', hs', hth'⟩
      have hs2 := hback _ _ hs'
      refine ⟨.inr hs2.inn, ?_⟩
      have hr' := r.step his ho hth'
      have := ih (listed.set i true) (pre ++ ⟨is, t.D, addS o.dst v t.κ, H', t.Φ⟩ :: post) (a.put o.dst v) w' ?_ hr' ?_ ?_ hk (by simpa using hΦ)
      · simpa using this
      · simp only [List.flatMap_append, List.flatMap_cons, his, List.length_append, List.length_cons] at hN ⊢
        omega
      · intro u hu
        have hdst : ∀ s, o.dst = some s → s ∈ t.D := fun s hs => r.dst t ht i (by rw [his]; simp) o ho s hs
        have hpp := r.pair
        rw [List.pairwise_append, List.pairwise_cons] at hpp
        obtain ⟨_, ⟨pp2, _⟩, pp4⟩ := hpp
        simp only [List.mem_append, List.mem_cons] at hu
        rcases hu with hu | rfl | hu
        · exact (hf u (by simp [hu])).other fun s hs => (pp4 u hu t (by simp)).2 s (hdst s hs)
        · exact hf'
        · exact (hf u (by simp [hu])).other fun s hs => (pp2 u hu).1 s (hdst s hs)
      · refine hs2.perm ?_
        simp only [List.flatMap_append, List.flatMap_cons]
        refine List.Perm.symm ?_
        refine (List.perm_append_comm).trans ?_
        simp only [List.append_assoc]
        refine List.Perm.append_left _ ?_
        refine (List.perm_append_comm (l₁ := H')).trans ?_
        simp only [List.append_assoc]
        exact List.Perm.refl _
    refine wpOp_mono key ?_
    unfold wpOp
    have hi' : ops.toArray[i]? = some o := by simpa using ho
    rw [hi']
    have hw : Region.wanted o (yielded ops.toArray a.tmps) = true := by simp [Region.wanted, hg]
    simp only [hw, if_true]
    left
    unfold Oper.wp at h2 ⊢
    generalize (execOp a.eval o).run P w = res at h2 ⊢
    cases res with
    | ok x w' =>
      cases x <;> simp only [Oper.upon] at h2 ⊢ <;> first
        | exact h2
        | exact h2.mono fun e w'' he => by
            cases e with
            | returned v => exact he
            | panicked c => exact he.elim
            | outgrown => obtain ⟨_, _, h⟩ := he; exact h.elim
    | halt x w' => cases x <;> simp only [Oper.upon] at h2

def thrs (ops : List Oper) (κ : List (Nat × Value)) : List (List Nat × List Assn × (List (Nat × Value) → List Assn → Prop)) → List Thr
  | [] => []
  | t :: r => ⟨t.1, dstsL ops t.1, κ, t.2.1, fun κ' H' => ∃ own, κ' = own ++ κ ∧ t.2.2 own H'⟩ :: thrs ops κ r
def memsOf : List (List Nat × List Assn × (List (Nat × Value) → List Assn → Prop)) → List Assn
  | [] => []
  | t :: r => t.2.1 ++ memsOf r
theorem thrs_H (ops : List Oper) (κ : List (Nat × Value)) : ∀ l, (thrs ops κ l).flatMap (·.H) = memsOf l
  | [] => rfl
  | t :: r => by simp only [thrs, memsOf, List.flatMap_cons, thrs_H ops κ r]
theorem thrs_is (ops : List Oper) (κ : List (Nat × Value)) : ∀ l, (thrs ops κ l).map (·.is) = l.map (·.1)
  | [] => rfl
  | t :: r => by simp only [thrs, List.map_cons, thrs_is ops κ r]
theorem thrs_D (ops : List Oper) (κ : List (Nat × Value)) : ∀ l, (thrs ops κ l).map (·.D) = (l.map (·.1)).map (dstsL ops)
  | [] => rfl
  | t :: r => by simp only [thrs, List.map_cons, thrs_D ops κ r]
theorem thrs_κ (ops : List Oper) (κ : List (Nat × Value)) : ∀ l, ∀ t ∈ thrs ops κ l, t.κ = κ ∧ t.D = dstsL ops t.is
  | [], t, h => by cases h
  | t :: r, u, h => by
    rcases List.mem_cons.1 h with rfl | h
    · exact ⟨rfl, rfl⟩
    · exact thrs_κ ops κ r u h
theorem thrs_th {ops : List Oper} {I : List Assn} : ∀ l, AllT P ops n d F I κ l → ∀ t ∈ thrs ops κ l, TH P ops n d F I t.Φ t.is t.κ t.H
  | [], _, t, h => by cases h
  | t :: r, ha, u, h => by
    rcases List.mem_cons.1 h with rfl | h
    · exact ha.1
    · exact thrs_th r ha.2 u h
theorem pairsOk_spec : ∀ {l : List (List Nat)}, pairsOk l = true → l.Pairwise fun D E => (∀ s ∈ D, s ∉ E) ∧ (∀ s ∈ E, s ∉ D)
  | [], _ => .nil
  | D :: r, h => by
    simp only [pairsOk, Bool.and_eq_true, List.all_eq_true] at h
    exact .cons (fun E hE => ⟨apartN_spec (h.1 E hE).1, apartN_spec (h.1 E hE).2⟩) (pairsOk_spec h.2)
theorem dstsL_mem {ops : List Oper} : ∀ {is : List Nat} {i : Nat} {o : Oper} {s : Nat}, i ∈ is → ops[i]? = some o → o.dst = some s → s ∈ dstsL ops is
  | [], _, _, _, h, _, _ => by cases h
  | j :: r, i, o, s, h, ho, hs => by
    simp only [dstsL, List.mem_append]
    rcases List.mem_cons.1 h with rfl | h
    · left; rw [← dstAt_eq, ho]; simp [hs]
    · right; exact dstsL_mem h ho hs

theorem FinT.use {K : List (Nat × Value) → List Assn → Prop} {ops : List Oper} {a : Act} {w : World} {κ0 : List (Nat × Value)} {out : Prop} : ∀ (l : List (List Nat × List Assn × (List (Nat × Value) → List Assn → Prop))) (ts : List Thr) (κ : List (Nat × Value)) (H : List Assn),
    ts.map (·.Φ) = (thrs ops κ0 l).map (·.Φ) → (∀ t ∈ ts, t.Φ t.κ t.H) → (∀ t ∈ ts, Fr n t.κ d a) → Fr n κ d a → FinT K l κ H → Sat (H ++ ts.flatMap (·.H)) F w →
    (∀ κ H, Fr n κ d a → Sat H F w → K κ H → out) → out
  | [], ts, κ, H, hΦ, _, _, hf, hK, hs, h => by
    have : ts = [] := by simpa [thrs] using hΦ
    subst this
    refine h κ H hf (by simpa using hs) hK
  | t :: r, [], _, _, hΦ, _, _, _, _, _, _ => by simp [thrs] at hΦ
  | t :: r, u :: ts, κ, H, hΦ, hu, hfs, hf, hK, hs, h => by
    simp only [thrs, List.map_cons, List.cons.injEq] at hΦ
    obtain ⟨h1, h2⟩ := hΦ
    have hu0 := hu u (by simp)
    rw [h1] at hu0
    obtain ⟨own, hown, hΨ⟩ := hu0
    have hfu := hfs u (by simp)
    rw [hown] at hfu
    refine FinT.use r ts (own ++ κ) (H ++ u.H) h2 (fun v hv => hu v (by simp [hv])) (fun v hv => hfs v (by simp [hv])) (hfu.merge hf) (hK own u.H hΨ) ?_ h
    rw [List.append_assoc]
    exact hs

/-- Threads side by side, whatever the order. -/
theorem GD.par {ops : List Oper} {listed listedN : List Bool} {N fuel : Nat} {I X : List Assn} (ths : List (List Nat × List Assn × (List (Nat × Value) → List Assn → Prop)))
    (hX : memsOf ths = X) (hS : Split H X I) (hc : parOk ops listed κ (ths.map (·.1)) = true) (hlen : Nat.beq listed.length ops.length = true) (hN : ((ths.map (·.1)).flatMap id).length = N) (hend : setAll listed ((ths.map (·.1)).flatMap id) = listedN)
    (hth : AllT P ops n d F I κ ths) (hfin : FinT (fun κ H => GD P ops Q n d F fuel listedN κ H) ths κ I) : GD P ops Q n d F (N + fuel) listed κ H := fun a w hf hsat => by
  have hc' := hc
  simp only [parOk, Bool.and_eq_true, List.all_eq_true] at hc'
  obtain ⟨⟨⟨⟨⟨hcl, hall⟩, hrest⟩, hdp⟩, hip⟩, hemp⟩ := hc'
  have his : (thrs ops κ ths).flatMap (·.is) = (ths.map (·.1)).flatMap id := by
    rw [List.flatMap_def, thrs_is, List.flatMap_def]; simp
  have hk : ∀ t ∈ thrs ops κ ths, ∀ s ∈ t.D, lk κ s = none := by
    intro t ht s hs
    have ht' : t.is ∈ ths.map (·.1) := by rw [← thrs_is ops κ]; exact List.mem_map_of_mem ht
    rw [(thrs_κ ops κ ths t ht).2] at hs
    exact noKs_spec (hall _ ht').2 s hs
  have r : Run P ops n d F I listedN listed (⟨[], [], κ, [], fun κ' H' => κ' = κ ∧ H' = []⟩ :: thrs ops κ ths) := by
    refine ⟨closedL_ok hcl, Nat.eq_of_beq_eq_true hlen, ?_, ?_, ?_, ?_, ?_, ?_, ?_, ?_, ?_⟩
    · intro t ht
      rcases List.mem_cons.1 ht with rfl | ht
      · rfl
      have : t.is ∈ ths.map (·.1) := by rw [← thrs_is ops κ]; exact List.mem_map_of_mem ht
      exact (hall _ this).1.1
    · intro t ht
      rcases List.mem_cons.1 ht with rfl | ht
      · rfl
      have : t.is ∈ ths.map (·.1) := by rw [← thrs_is ops κ]; exact List.mem_map_of_mem ht
      exact (hall _ this).1.2
    · intro j hj hun
      unfold restOk at hrest
      simp only [List.all_eq_true, List.mem_range, Bool.or_eq_true] at hrest
      rcases hrest j hj with (h | h) | h
      · rw [hun] at h; cases h
      · left
        simp only [List.any_eq_true] at h
        obtain ⟨t, ht, hjt⟩ := h
        rw [← thrs_is ops κ] at ht
        obtain ⟨u, hu, rfl⟩ := List.mem_map.1 ht
        exact ⟨u, List.mem_cons_of_mem _ hu, (memN_iff _ _).1 hjt⟩
      · right
        intro t ht l hl
        rcases List.mem_cons.1 ht with rfl | ht
        · cases hl
        have ht' : t.is ∈ ths.map (·.1) := by rw [← thrs_is ops κ]; exact List.mem_map_of_mem ht
        have := h _ ht'
        rw [hl] at this
        exact this
    · rw [List.flatMap_cons, List.nil_append, his]; exact hend
    · intro t ht i hi o ho s hs
      rcases List.mem_cons.1 ht with rfl | ht
      · cases hi
      rw [(thrs_κ ops κ ths t ht).2]
      exact dstsL_mem hi ho hs
    · refine .cons (fun u hu => ⟨fun s hs => (by cases hs), hk u hu⟩) ?_
      have hp : (thrs ops κ ths).Pairwise fun _ _ => True := List.pairwise_of_forall (fun _ _ => trivial)
      refine List.Pairwise.imp_of_mem (fun {t u} ht hu _ => ?_) hp
      rw [(thrs_κ ops κ ths t ht).1, (thrs_κ ops κ ths u hu).1]
      exact ⟨hk t ht, hk u hu⟩
    · refine .cons (fun u hu => ⟨fun s hs => (by cases hs), fun s _ hs => (by cases hs)⟩) ?_
      have := pairsOk_spec hdp
      rw [← thrs_D ops κ] at this
      exact List.pairwise_map.1 this
    · refine .cons (fun u hu i hi => by cases hi) ?_
      have := pairsOk_spec hip
      rw [← thrs_is ops κ] at this
      exact (List.pairwise_map.1 this).imp fun h => h.1
    · intro t ht
      rcases List.mem_cons.1 ht with rfl | ht
      · exact ⟨rfl, rfl⟩
      · exact thrs_th ths hth t ht
  refine Run.go (Φs := (fun κ' H' => κ' = κ ∧ H' = []) :: (thrs ops κ ths).map (·.Φ)) N listed _ a w (by rw [List.flatMap_cons, List.nil_append, his]; exact hN) r (fun t ht => ?_) ?_ ?_ rfl
  · rcases List.mem_cons.1 ht with rfl | ht
    · exact hf
    · rw [(thrs_κ ops κ ths t ht).1]; exact hf
  · rw [List.flatMap_cons, List.nil_append, thrs_H, hX]
    exact (hsat.split hS).append_comm
  · intro ts a w hnil r hfs hs hΦ
    have hf0 : ∀ t ∈ ts, t.Φ t.κ t.H := by
      intro t ht
      have := r.th t ht
      rw [hnil t ht] at this
      exact this
    cases ts with
    | nil => simp at hΦ
    | cons u us =>
      simp only [List.map_cons, List.cons.injEq] at hΦ
      obtain ⟨h1, h2⟩ := hΦ
      have hu := hf0 u (by simp)
      rw [h1] at hu
      obtain ⟨hu1, hu2⟩ := hu
      have hfu := hfs u (by simp)
      rw [hu1] at hfu
      rw [List.flatMap_cons, hu2, List.nil_append] at hs
      exact FinT.use (κ0 := κ) ths us κ I h2 (fun t ht => hf0 t (by simp [ht])) (fun t ht => hfs t (by simp [ht])) hfu hfin hs (fun κ' H' hf' hs' hK => hK a w hf' hs')

/-! the steps of a thread -/
variable {ops : List Oper} {I : List Assn} {Φ : List (Nat × Value) → List Assn → Prop}

theorem TH.nil {κ0 : List (Nat × Value)} {Ψ : List (Nat × Value) → List Assn → Prop} (own : List (Nat × Value)) (h : Ψ own H) : TH P ops n d F I (fun κ' H' => ∃ own, κ' = own ++ κ0 ∧ Ψ own H') [] (own ++ κ0) H := ⟨own, rfl, h⟩
theorem TH.nil' {κ0 own κ : List (Nat × Value)} {Ψ : List (Nat × Value) → List Assn → Prop} (p : App own κ0 κ) (h : Ψ own H) : TH P ops n d F I (fun κ' H' => ∃ own, κ' = own ++ κ0 ∧ Ψ own H') [] κ H := ⟨own, p.eq, h⟩
theorem TH.rd {i s : Nat} {is : List Nat} {op : Op} {ty : TypeId} {pos : String} {after : Array Edge} {v : Value} (hi : ops[i]? = some ⟨some s, op, ty, pos, after, none⟩)
    (h : RD P κ (I ++ H) F op v) (hs : Nat.blt s n = true) (k : TH P ops n d F I Φ is ((s, v) :: κ) H) : TH P ops n d F I Φ (i :: is) κ H := by
  refine ⟨_, hi, rfl, ?_⟩
  intro G hle a w hf hsat
  unfold Oper.wp
  rw [h n d a w _ _ _ _ _ hf (hsat.weaken hle), Oper.upon_value]
  exact ⟨v, H, rfl, hf.put hs, hsat, k⟩
theorem TH.ro {i s : Nat} {is : List Nat} {op : Op} {ty : TypeId} {pos : String} {after : Array Edge} {v : Value} (hi : ops[i]? = some ⟨some s, op, ty, pos, after, none⟩)
    (h : RO P κ F op v) (hs : Nat.blt s n = true) (k : TH P ops n d F I Φ is ((s, v) :: κ) H) : TH P ops n d F I Φ (i :: is) κ H := TH.rd hi h.rd hs k
theorem TH.acts {i s : Nat} {is : List Nat} {op : Op} {ty : TypeId} {pos : String} {after : Array Edge} {R : Option Value → List Assn → Prop} (hi : ops[i]? = some ⟨some s, op, ty, pos, after, none⟩)
    (h : ∀ G, F.le G → Acts P κ (I ++ H) G op R) (hs : Nat.blt s n = true) (k : ∀ v K, R (some v) K → ∃ H', Split K I H' ∧ TH P ops n d F I Φ is ((s, v) :: κ) H') (k0 : ∀ H', ¬ R none H') : TH P ops n d F I Φ (i :: is) κ H := by
  refine ⟨_, hi, rfl, ?_⟩
  intro G hle a w hf hsat
  unfold Oper.wp
  obtain ⟨x, v, w', H', hR, hsat', hx, hrun⟩ := h G hle n d a w _ _ _ _ _ hf hsat
  rcases hx with rfl | rfl
  · exact absurd hR (k0 H')
  rcases hrun with hrun | ⟨h0, _⟩
  · rw [hrun, Oper.upon_value]
    obtain ⟨H'', hS, hk⟩ := k v H' hR
    exact ⟨v, H'', rfl, hf.put hs, hsat'.split hS, hk⟩
  · cases h0
theorem TH.acts0 {i : Nat} {is : List Nat} {op : Op} {ty : TypeId} {pos : String} {after : Array Edge} {R : Option Value → List Assn → Prop} (hi : ops[i]? = some ⟨none, op, ty, pos, after, none⟩)
    (h : ∀ G, F.le G → Acts P κ (I ++ H) G op R) (k : ∀ x K, R x K → ∃ H', Split K I H' ∧ TH P ops n d F I Φ is κ H') : TH P ops n d F I Φ (i :: is) κ H := by
  refine ⟨_, hi, rfl, ?_⟩
  intro G hle a w hf hsat
  unfold Oper.wp
  obtain ⟨x, v, w', H', hR, hsat', hx, hrun⟩ := h G hle n d a w _ _ _ _ _ hf hsat
  obtain ⟨H'', hS, hk⟩ := k x H' hR
  rcases hrun with hrun | ⟨_, _, hrun⟩
  · rw [hrun, Oper.upon_value]; exact ⟨v, H'', rfl, hf, hsat'.split hS, hk⟩
  · rw [hrun, Oper.upon_skip]; exact ⟨undef, H'', rfl, hf, hsat'.split hS, hk⟩
theorem TH.call {i s : Nat} {is : List Nat} {f : FuncId} {first caps vs l1 l2 : List Value} {x : Operand} {xs : Array Operand} {ats : Array TypeId} {ty : TypeId} {pos : String} {after : Array Edge} {Hp Hr : List Assn} {R : Value → List Assn → Prop}
    (hi : ops[i]? = some ⟨some s, .call { callee := .value x, args := xs, argTypes := ats }, ty, pos, after, none⟩)
    (hx : ev κ x = some (.func (.func f) first.toArray caps.toArray)) (hxs : evs κ xs.toList = some vs) (h1 : App first vs l1) (h2 : App l1 caps l2) (hS : Split (I ++ H) Hp Hr)
    (spec : ∀ G, F.le G → (∀ A ∈ Hr, G.has A) → FnOk P f l2 Hp G R) (hs : Nat.blt s n = true)
    (k : ∀ v H', R v H' → ∃ H'', Split (H' ++ Hr) I H'' ∧ TH P ops n d F I Φ is ((s, v) :: κ) H'') : TH P ops n d F I Φ (i :: is) κ H := by
  refine ⟨_, hi, rfl, ?_⟩
  intro G hle a w hf hsat
  obtain ⟨F', hle', hhas, hsat', hback⟩ := Sat.frame Hr (hsat.split hS).append_comm
  have hsp := spec F' (Frm.le_trans hle hle') hhas
  refine wp_call (run_callV hf hsp.real hx hxs h1 h2) ((hsp.calls w hsat').mono ?_)
  rintro e w' ⟨v, H', rfl, hR, hs'⟩
  obtain ⟨H'', hS', hk⟩ := k v H' hR
  exact ⟨v, rfl, v, H'', rfl, hf.put hs, (hback _ _ hs').append_comm.split hS', hk⟩

/-- The main thread's end: what is left to show. -/
theorem TH.fin {K : List (Nat × Value) → List Assn → Prop} {bgs : List (List Nat × List Assn × (List (Nat × Value) → List Assn → Prop))} {κ0 own κ : List (Nat × Value)} (p : App own κ0 κ) (h : FinT K bgs κ (I ++ H)) :
    TH P ops n d F I (fun κ' H' => ∃ own, κ' = own ++ κ0 ∧ FinT K bgs (own ++ κ0) (I ++ H')) [] κ H := ⟨own, p.eq, p.eq ▸ h⟩
/-- One thread that is the proof's own; others, of whose ends is told what they leave. -/
theorem GD.bg {listed listedN : List Bool} {N fuel : Nat} {Hm X : List Assn} (is : List Nat) (bgs : List (List Nat × List Assn × (List (Nat × Value) → List Assn → Prop)))
    (hX : Hm ++ memsOf bgs = X) (hS : Split H X I) (hc : parOk ops listed κ (is :: bgs.map (·.1)) = true) (hlen : Nat.beq listed.length ops.length = true) (hN : ((is :: bgs.map (·.1)).flatMap id).length = N) (hend : setAll listed ((is :: bgs.map (·.1)).flatMap id) = listedN)
    (hth : AllT P ops n d F I κ bgs)
    (hm : TH P ops n d F I (fun κ' H' => ∃ own, κ' = own ++ κ ∧ FinT (fun κ H => GD P ops Q n d F fuel listedN κ H) bgs (own ++ κ) (I ++ H')) is κ Hm) : GD P ops Q n d F (N + fuel) listed κ H :=
  GD.par ((is, Hm, fun own H' => FinT (fun κ H => GD P ops Q n d F fuel listedN κ H) bgs (own ++ κ) (I ++ H')) :: bgs) hX hS hc hlen hN hend ⟨hm, hth⟩ (fun _ _ h => h)

/-! what may stand in the background -/
/-- Operation i, whose slot is s: what it leaves is told by L. -/
abbrev bgO (i s : Nat) {α : Type} (L : α → Value × List Assn) : List Nat × List Assn × (List (Nat × Value) → List Assn → Prop) := ([i], [], fun own H => ∃ a, own = [(s, (L a).1)] ∧ H = (L a).2)
theorem bgO.alloc {i s T : Nat} {l : List Value} {ty : TypeId} {pos : String} {after : Array Edge} (hi : ops[i]? = some ⟨some s, .alloc T, ty, pos, after, none⟩) (hz : zv P T = some l) (hs : Nat.blt s n = true) :
    TH P ops n d F I (fun κ' H' => ∃ own, κ' = own ++ κ ∧ (bgO i s fun b : Nat => (.pointer (some ⟨b, 0, none⟩), [pt b (cl l T)])).2.2 own H') [i] κ [] := by
  refine TH.acts hi (fun _ _ => Acts.alloc hz) hs (fun v K hx => ?_) (fun _ hx => by obtain ⟨_, hx, _⟩ := hx; cases hx)
  obtain ⟨b, hv, rfl⟩ := hx
  cases hv
  refine ⟨[pt b (cl l T)], ?_, [(s, _)], rfl, b, rfl, rfl⟩
  exact splitCons I
where
  splitCons {A : Assn} : ∀ (I : List Assn), Split (A :: (I ++ [])) I [A]
    | [] => .n
    | B :: I => .p (.t .h) (splitCons I)
theorem bgO.buildSlice {i s T e sz by_ m : Nat} {z r : List Value} {ps : Array (Nat × Operand)} {vs : List (Nat × Value)} {ty : TypeId} {pos : String} {after : Array Edge} (hi : ops[i]? = some ⟨some s, .buildSlice T m ps, ty, pos, after, none⟩) (hT : apt P T = some (e, sz, by_, z)) (hps : parts κ ps.toList = some vs) (hb : bld (fun i => some (i * sz, sz)) (rep m z) vs = some r) (hm : Nat.ble (m * sz) 16777216 = true) (hsz : Nat.blt 0 sz = true) (hs : Nat.blt s n = true) :
    TH P ops n d F I (fun κ' H' => ∃ own, κ' = own ++ κ ∧ (bgO i s fun b : Nat => (.slice (some ⟨b, 0, none⟩) m m, [pt b (cl r e)])).2.2 own H') [i] κ [] := by
  refine TH.acts hi (fun _ _ => Acts.buildSlice hT hps hb hm hsz) hs (fun v K hx => ?_) (fun _ hx => by obtain ⟨_, hx, _⟩ := hx; cases hx)
  obtain ⟨b, hv, rfl⟩ := hx
  cases hv
  exact ⟨[pt b (cl r e)], bgO.alloc.splitCons I, [(s, _)], rfl, b, rfl, rfl⟩
theorem bgO.box {i s T : Nat} {x : Operand} {v : Value} {l : List Value} {ty : TypeId} {pos : String} {after : Array Edge} (hi : ops[i]? = some ⟨some s, .box T x, ty, pos, after, none⟩) (hx : ev κ x = some v) (hv : vc v = some l) (hs : Nat.blt s n = true) :
    TH P ops n d F I (fun κ' H' => ∃ own, κ' = own ++ κ ∧ (bgO i s fun b : Nat => (.pointer (some ⟨b, 0, none⟩), [pt b (cl l T)])).2.2 own H') [i] κ [] := by
  refine TH.acts hi (fun _ _ => Acts.box hx hv) hs (fun v K hx => ?_) (fun _ hx => by obtain ⟨_, hx, _⟩ := hx; cases hx)
  obtain ⟨b, hv, rfl⟩ := hx
  cases hv
  exact ⟨[pt b (cl l T)], bgO.alloc.splitCons I, [(s, _)], rfl, b, rfl, rfl⟩
theorem bgO.makeSlice {α : Type} {i s T e sz by_ m : Nat} {z : List Value} {en : α → List Value} {x y : Operand} {ty : TypeId} {pos : String} {after : Array Edge} (z0 : α) (hE : El en sz) (hi : ops[i]? = some ⟨some s, .makeSlice T x y, ty, pos, after, none⟩) (hx : ev κ x = some (.int .i64 (m : Int))) (hy : ev κ y = some (.int .i64 (m : Int))) (hT : apt P T = some (e, sz, by_, z)) (hz0 : en z0 = z) (hm : m ≤ 1073741824) (hs : Nat.blt s n = true) :
    TH P ops n d F I (fun κ' H' => ∃ own, κ' = own ++ κ ∧ (bgO i s fun p : Option Addr => (.slice p (List.replicate m z0).length m, [sA e sz en p m (List.replicate m z0)])).2.2 own H') [i] κ [] := by
  refine TH.acts hi (fun _ _ => Acts.makeSlice z0 hE hx hy hT rfl hz0 hm) hs (fun v K hx => ?_) (fun _ hx => by obtain ⟨_, _, hx, _⟩ := hx; cases hx)
  obtain ⟨p, _, hv, rfl⟩ := hx
  cases hv
  exact ⟨[sA e sz en p m (List.replicate m z0)], bgO.alloc.splitCons I, [(s, .slice p (List.replicate m z0).length m)], by rw [List.length_replicate]; rfl, p, rfl, rfl⟩
end Go.Sl
/- The engine, part 22: packed memory: somewhere it lies, and something is so of it. -/
namespace Go.Sl
open Go
variable {P : Program} {n : Nat} {d : List Deferred} {F : Frm} {κ : List (Nat × Value)} {H : List Assn} {Q : Exit → Act → World → Prop}

/-- Nothing is held, something is so. -/
def pu (φ : Prop) : Assn := fun _ => φ
/-- For some a: these pieces. -/
def Ex {α : Type} (L : α → List Assn) : Assn := fun h => ∃ a, sep (L a) h

theorem Sat.opens : ∀ {L H : List Assn} {F : Frm} {w : World}, Sat (sep L :: H) F w → Sat (L ++ H) F w
  | [], _, _, _, h => h.drop
  | _ :: _, _, _, _, h => h.unsep.under fun _ h => h.opens
theorem Sat.closes : ∀ {L H : List Assn} {F : Frm} {w : World}, Sat (L ++ H) F w → Sat (sep L :: H) F w
  | [], _, _, _, h => h.sep_nil
  | A :: L, H, F, w, h => by
    have h1 : Sat (A :: sep L :: H) F w := Sat.under (H := L ++ H) h fun _ h => h.closes
    exact h1.sepc
theorem Sat.open {α : Type} {L : α → List Assn} {w : World} (h : Sat (Ex L :: H) F w) : ∃ a, Sat (L a ++ H) F w := by
  obtain ⟨p, ⟨a, hA⟩, hd, hs⟩ := h
  exact ⟨a, Sat.opens ⟨p, hA, hd, hs⟩⟩
theorem Sat.close {α : Type} {L : α → List Assn} {w : World} (a : α) (h : Sat (L a ++ H) F w) : Sat (Ex L :: H) F w := by
  obtain ⟨p, hA, hd, hs⟩ := Sat.closes h
  exact ⟨p, ⟨a, hA⟩, hd, hs⟩
theorem Sat.pure {φ : Prop} {w : World} (h : Sat (pu φ :: H) F w) : φ := let ⟨_, h, _⟩ := h; h
theorem Sat.purei {φ : Prop} {w : World} (hφ : φ) (h : Sat H F w) : Sat (pu φ :: H) F w :=
  ⟨fun _ => none, hφ, fun _ => .inl rfl, h.weaken ⟨fun b o hb => by simpa [Frm.add] using hb, rfl, rfl, rfl⟩⟩
theorem Frm.has_ex {α : Type} {L : α → List Assn} (h : F.has (Ex L)) : ∃ a, F.has (sep (L a)) := by
  obtain ⟨p, ⟨a, hA⟩, hl⟩ := h; exact ⟨a, p, hA, hl⟩
theorem Frm.has_pu {φ : Prop} (h : F.has (pu φ)) : φ := let ⟨_, h, _⟩ := h; h

/-! opening, at each kind of goal -/
def Each (g : List Assn → Prop) (H : List Assn) (g' : Prop) : Prop := g' → g H
theorem Tr.open {α : Type} {L : α → List Assn} {c : Code} {R : List Assn} (p : Pick H (Ex L) R) (k : ∀ a, Tr P c Q n d F κ (L a ++ R)) : Tr P c Q n d F κ H :=
  fun a w hf hs => let ⟨x, hx⟩ := (hs.pick p).open; k x a w hf hx
theorem G.open {α : Type} {L : α → List Assn} {ops : Array Oper} {rest : List Oper} {R : List Assn} (p : Pick H (Ex L) R) (k : ∀ a, G P ops Q n d F rest κ (L a ++ R)) : G P ops Q n d F rest κ H :=
  fun a w hf hs => let ⟨x, hx⟩ := (hs.pick p).open; k x a w hf hx
theorem GD.open {α : Type} {L : α → List Assn} {ops : List Oper} {fuel : Nat} {listed : List Bool} {R : List Assn} (p : Pick H (Ex L) R) (k : ∀ a, GD P ops Q n d F fuel listed κ (L a ++ R)) : GD P ops Q n d F fuel listed κ H :=
  fun a w hf hs => let ⟨x, hx⟩ := (hs.pick p).open; k x a w hf hx
theorem Post.open {α : Type} {L : α → List Assn} {e : Exit} {R : List Assn} (p : Pick H (Ex L) R) (k : ∀ a, Post Q e n d F κ (L a ++ R)) : Post Q e n d F κ H :=
  fun a w hf hs => let ⟨x, hx⟩ := (hs.pick p).open; k x a w hf hx
theorem Tr.opens {L : List Assn} {c : Code} {R : List Assn} (p : Pick H (sep L) R) (k : Tr P c Q n d F κ (L ++ R)) : Tr P c Q n d F κ H := fun a w hf hs => k a w hf (hs.pick p).opens
theorem G.opens {L : List Assn} {ops : Array Oper} {rest : List Oper} {R : List Assn} (p : Pick H (sep L) R) (k : G P ops Q n d F rest κ (L ++ R)) : G P ops Q n d F rest κ H := fun a w hf hs => k a w hf (hs.pick p).opens
theorem Tr.pure {φ : Prop} {c : Code} {R : List Assn} (p : Pick H (pu φ) R) (k : φ → Tr P c Q n d F κ R) : Tr P c Q n d F κ H := fun a w hf hs => k (hs.pick p).pure a w hf (hs.pick p).drop
theorem G.pure {φ : Prop} {ops : Array Oper} {rest : List Oper} {R : List Assn} (p : Pick H (pu φ) R) (k : φ → G P ops Q n d F rest κ R) : G P ops Q n d F rest κ H := fun a w hf hs => k (hs.pick p).pure a w hf (hs.pick p).drop
theorem GD.pure {φ : Prop} {ops : List Oper} {fuel : Nat} {listed : List Bool} {R : List Assn} (p : Pick H (pu φ) R) (k : φ → GD P ops Q n d F fuel listed κ R) : GD P ops Q n d F fuel listed κ H := fun a w hf hs => k (hs.pick p).pure a w hf (hs.pick p).drop
theorem Post.pure {φ : Prop} {e : Exit} {R : List Assn} (p : Pick H (pu φ) R) (k : φ → Post Q e n d F κ R) : Post Q e n d F κ H := fun a w hf hs => k (hs.pick p).pure a w hf (hs.pick p).drop

/-! closing -/
/-- What a piece asks: pure facts are shown, the rest stands in H. -/
theorem Sat.pack {α : Type} {L : α → List Assn} {X R : List Assn} {w : World} (a : α) (hX : L a = X) (hS : Split H X R) (h : Sat H F w) : Sat (Ex L :: R) F w := Sat.close a (hX ▸ h.split hS)
theorem Sat.packp {α : Type} {L : α → List Assn} {φ : Prop} {X R : List Assn} {w : World} (a : α) (hφ : φ) (hX : L a = pu φ :: X) (hS : Split H X R) (h : Sat H F w) : Sat (Ex L :: R) F w := Sat.close a (hX ▸ Sat.purei hφ (h.split hS))
theorem Tr.pack {α : Type} {L : α → List Assn} {c : Code} {X R : List Assn} (a : α) (hX : L a = X) (hS : Split H X R) (k : Tr P c Q n d F κ (Ex L :: R)) : Tr P c Q n d F κ H := fun x w hf hs => k x w hf (hs.pack a hX hS)
theorem G.pack {α : Type} {L : α → List Assn} {ops : Array Oper} {rest : List Oper} {X R : List Assn} (a : α) (hX : L a = X) (hS : Split H X R) (k : G P ops Q n d F rest κ (Ex L :: R)) : G P ops Q n d F rest κ H := fun x w hf hs => k x w hf (hs.pack a hX hS)
theorem GD.pack {α : Type} {L : α → List Assn} {ops : List Oper} {fuel : Nat} {listed : List Bool} {X R : List Assn} (a : α) (hX : L a = X) (hS : Split H X R) (k : GD P ops Q n d F fuel listed κ (Ex L :: R)) : GD P ops Q n d F fuel listed κ H := fun x w hf hs => k x w hf (hs.pack a hX hS)
theorem Post.pack {α : Type} {L : α → List Assn} {e : Exit} {X R : List Assn} (a : α) (hX : L a = X) (hS : Split H X R) (k : Post Q e n d F κ (Ex L :: R)) : Post Q e n d F κ H := fun x w hf hs => k x w hf (hs.pack a hX hS)
theorem Tr.packp {α : Type} {L : α → List Assn} {φ : Prop} {c : Code} {X R : List Assn} (a : α) (hφ : φ) (hX : L a = pu φ :: X) (hS : Split H X R) (k : Tr P c Q n d F κ (Ex L :: R)) : Tr P c Q n d F κ H := fun x w hf hs => k x w hf (hs.packp a hφ hX hS)
theorem G.packp {α : Type} {L : α → List Assn} {φ : Prop} {ops : Array Oper} {rest : List Oper} {X R : List Assn} (a : α) (hφ : φ) (hX : L a = pu φ :: X) (hS : Split H X R) (k : G P ops Q n d F rest κ (Ex L :: R)) : G P ops Q n d F rest κ H := fun x w hf hs => k x w hf (hs.packp a hφ hX hS)
theorem GD.packp {α : Type} {L : α → List Assn} {φ : Prop} {ops : List Oper} {fuel : Nat} {listed : List Bool} {X R : List Assn} (a : α) (hφ : φ) (hX : L a = pu φ :: X) (hS : Split H X R) (k : GD P ops Q n d F fuel listed κ (Ex L :: R)) : GD P ops Q n d F fuel listed κ H := fun x w hf hs => k x w hf (hs.packp a hφ hX hS)
theorem Post.packp {α : Type} {L : α → List Assn} {φ : Prop} {e : Exit} {X R : List Assn} (a : α) (hφ : φ) (hX : L a = pu φ :: X) (hS : Split H X R) (k : Post Q e n d F κ (Ex L :: R)) : Post Q e n d F κ H := fun x w hf hs => k x w hf (hs.packp a hφ hX hS)

/-- k-th of a list -/
theorem memAt {α : Type _} {l : List α} (k : Nat) {a : α} (h : l[k]? = some a) : a ∈ l := List.mem_of_getElem? h
end Go.Sl
/- The engine, part 23: slices of arrays; interfaces. -/
namespace Go.Sl
open Go
variable {P : Program} {n : Nat} {d : List Deferred} {F : Frm} {κ : List (Nat × Value)} {H : List Assn} {Q : Exit → Act → World → Prop}

theorem arr_spec {T m e s : Nat} {g : Bool} (h : arr P T = some (m, e, g, s)) : P.underlying T = some (.array m e) ∧ lyt P e = some (g, s) := by
  unfold arr at h
  cases hu : P.underlying T with
  | none => simp [hu] at h
  | some dd =>
    cases dd <;> simp only [hu] at h <;> try (cases h; done)
    rename_i m' e'
    cases hl : lyt P e' with
    | none => simp [hl] at h
    | some gs =>
      obtain ⟨g', s'⟩ := gs
      simp only [hl, Option.some.injEq, Prod.mk.injEq] at h
      obtain ⟨rfl, rfl, rfl, rfl⟩ := h
      exact ⟨rfl, hl⟩
/-- a whole array as a slice -/
theorem RO.sliceArr {T m e s b k : Nat} {g : Bool} {x : Operand} (hx : ev κ x = some (.pointer (some ⟨b, k, none⟩))) (hT : arr P T = some (m, e, g, s)) : RO P κ F (.slice T x none none none) (.slice (some ⟨b, k, none⟩) m m) := by
  intro n' d' a w dst ty pos after guard hf hs
  have ex := hf.ev hx
  obtain ⟨hu, hl⟩ := arr_spec hT
  generalize a.eval = ρ at ex ⊢
  simp only [execOp, Instr.sliceAt, ex]
  simp [run_underlying hu, Instr.sureAddr, Instr.sliceBounds, run_sizeOf hl, Addr.add_none, Option.map]
/-- A type that is there, and no interface. -/
def nif (P : Program) (T : Nat) : Bool := match P.underlying T with | some (.interface _) => false | some _ => true | none => false
/-- an interface's value -/
theorem RO.makeIface {T : TypeId} {x : Operand} {v : Value} (hx : ev κ x = some v) (hv : nif P T = true) : RO P κ F (.makeInterface T x) (.iface T v) := by
  intro n' d' a w dst ty pos after guard hf hs
  have ex := hf.ev hx
  generalize a.eval = ρ at ex ⊢
  have h1 : (Instr.makeInterface T v).run P w = .ok (.iface T v) w := by
    unfold nif at hv
    cases hu : P.underlying T with
    | none => simp [hu] at hv
    | some dd =>
      simp only [Instr.makeInterface]
      rw [Sem.run_bind, run_underlying hu]
      cases dd <;> simp [hu] at hv <;> simp [Result.andThen]
  simp [execOp, ex, h1, Result.andThen]
theorem isIfc_ok {T : Nat} (h : isIfc P T = true) : ∃ d, P.underlying T = some (.interface d) := by
  unfold isIfc at h; split at h
  · exact ⟨_, by assumption⟩
  · cases h
theorem RO.eqlIfT {T : Nat} {u : TypeId} {x : Operand} (hx : ev κ x = some .nilIface) (hT : isIfc P T = true) : RO P κ F (.binOp .eql T x (.const .nilIface) u) (.bool true) := by
  have hy : ev κ (.const .nilIface) = some .nilIface := rfl
  intro n' d' a w dst ty pos after guard hf hs
  have ex := hf.ev hx; have ey := hf.ev hy
  obtain ⟨dd, hu⟩ := isIfc_ok hT
  have h : ∀ d : Nat, (Op.equalIn (d + 1) T .nilIface .nilIface).run P w = .ok true w := fun d => by
    simp only [Op.equalIn]; rw [Sem.run_bind, run_underlying hu]; simp [Result.andThen]
  generalize a.eval = ρ at ex ey ⊢
  simp only [execOp, ex, ey, binOp, eqGuard]
  simp [Op.equal, Op.maxDepth, h 9999]
theorem RO.eqlIfF {T t : Nat} {v : Value} {u : TypeId} {x y : Operand} (hx : ev κ x = some (.iface t v)) (hy : ev κ y = some .nilIface) (hT : isIfc P T = true) : RO P κ F (.binOp .eql T x y u) (.bool false) := by
  intro n' d' a w dst ty pos after guard hf hs
  have ex := hf.ev hx; have ey := hf.ev hy
  obtain ⟨dd, hu⟩ := isIfc_ok hT
  have h : ∀ d : Nat, (Op.equalIn (d + 1) T (.iface t v) .nilIface).run P w = .ok false w := fun d => by
    simp only [Op.equalIn]; rw [Sem.run_bind, run_underlying hu]; simp [Result.andThen]
  generalize a.eval = ρ at ex ey ⊢
  simp only [execOp, ex, ey, binOp, eqGuard]
  simp [Op.equal, Op.maxDepth, h 9999]
theorem RO.neqIfT {T : Nat} {u : TypeId} {x : Operand} (hx : ev κ x = some .nilIface) (hT : isIfc P T = true) : RO P κ F (.binOp .neq T x (.const .nilIface) u) (.bool false) := by
  have hy : ev κ (.const .nilIface) = some .nilIface := rfl
  intro n' d' a w dst ty pos after guard hf hs
  have ex := hf.ev hx; have ey := hf.ev hy
  obtain ⟨dd, hu⟩ := isIfc_ok hT
  have h : ∀ d : Nat, (Op.equalIn (d + 1) T .nilIface .nilIface).run P w = .ok true w := fun d => by
    simp only [Op.equalIn]; rw [Sem.run_bind, run_underlying hu]; simp [Result.andThen]
  generalize a.eval = ρ at ex ey ⊢
  simp only [execOp, ex, ey, binOp, eqGuard]
  simp [Op.equal, Op.maxDepth, h 9999]
theorem RO.neqIfF {T t : Nat} {v : Value} {u : TypeId} {x y : Operand} (hx : ev κ x = some (.iface t v)) (hy : ev κ y = some .nilIface) (hT : isIfc P T = true) : RO P κ F (.binOp .neq T x y u) (.bool true) := by
  intro n' d' a w dst ty pos after guard hf hs
  have ex := hf.ev hx; have ey := hf.ev hy
  obtain ⟨dd, hu⟩ := isIfc_ok hT
  have h : ∀ d : Nat, (Op.equalIn (d + 1) T (.iface t v) .nilIface).run P w = .ok false w := fun d => by
    simp only [Op.equalIn]; rw [Sem.run_bind, run_underlying hu]; simp [Result.andThen]
  generalize a.eval = ρ at ex ey ⊢
  simp only [execOp, ex, ey, binOp, eqGuard]
  simp [Op.equal, Op.maxDepth, h 9999]
def isBoo (P : Program) (T : Nat) : Bool := match P.underlying T with | some .bool => true | _ => false
theorem RO.eqlBool {T : Nat} {a b : Bool} {u : TypeId} {x y : Operand} (hx : ev κ x = some (.bool a)) (hy : ev κ y = some (.bool b)) (hT : isBoo P T = true) : RO P κ F (.binOp .eql T x y u) (.bool (a == b)) := by
  intro n' d' ac w dst ty pos after guard hf hs
  have ex := hf.ev hx; have ey := hf.ev hy
  have hu : P.underlying T = some .bool := by unfold isBoo at hT; split at hT <;> simp_all
  have h : ∀ d : Nat, (Op.equalIn (d + 1) T (.bool a) (.bool b)).run P w = .ok (a == b) w := fun d => by
    simp only [Op.equalIn]; rw [Sem.run_bind, run_underlying hu]; simp [Result.andThen]
  generalize ac.eval = ρ at ex ey ⊢
  simp only [execOp, ex, ey, binOp, eqGuard]
  simp [Op.equal, Op.maxDepth, h 9999]
theorem RO.neqBool {T : Nat} {a b : Bool} {u : TypeId} {x y : Operand} (hx : ev κ x = some (.bool a)) (hy : ev κ y = some (.bool b)) (hT : isBoo P T = true) : RO P κ F (.binOp .neq T x y u) (.bool (!(a == b))) := by
  intro n' d' ac w dst ty pos after guard hf hs
  have ex := hf.ev hx; have ey := hf.ev hy
  have hu : P.underlying T = some .bool := by unfold isBoo at hT; split at hT <;> simp_all
  have h : ∀ d : Nat, (Op.equalIn (d + 1) T (.bool a) (.bool b)).run P w = .ok (a == b) w := fun d => by
    simp only [Op.equalIn]; rw [Sem.run_bind, run_underlying hu]; simp [Result.andThen]
  generalize ac.eval = ρ at ex ey ⊢
  simp only [execOp, ex, ey, binOp, eqGuard]
  simp [Op.equal, Op.maxDepth, h 9999]
/-- x[j:] of one's own: what is in front is let go. -/
theorem Acts.sliceFrom {α : Type} {T T' c j : Nat} {g : Bool} {e s sz : Nat} {en : α → List Value} {x y : Operand} {ik : IntKind} {p : Option Addr} {l : List α} {R : List Assn} (hx : ev κ x = some (.slice p l.length c)) (hy : ev κ y = some (.int ik (j : Int))) (hT : slt P T = some (e, g, s)) (hsz : s = sz) (hp : Pick H (sA T' sz en p c l) R) (hj : j ≤ l.length) :
    Acts P κ H F (.slice T x (some y) none none) (fun v K => ∃ p' c', v = some (.slice p' (l.drop j).length c') ∧ K = sA T' sz en p' c' (l.drop j) :: R) := by
  subst hsz
  intro n' d' a w dst ty pos after guard hf hs
  have h0 := hs.pick hp
  obtain ⟨q, hA, hd, hs2⟩ := id h0
  have hsp : c ≠ 0 → ∀ a, p = some a → a.spot = none := by
    rcases hA with ⟨_, h1⟩ | ⟨b, off, cs, fr, h1, _⟩
    · exact fun h => absurd h1 h
    · subst h1; simp
  have hmc : l.length ≤ c := by
    rcases hA with ⟨h1, h2⟩ | ⟨b, off, cs, fr, _, _, _, _, h1, _⟩
    · simp [h1]
    · exact h1
  have hr := RO.sliceFrom (P := P) (F := F) (κ := κ) hx hy hT hj (fun h => hsp (by omega)) n' d' a w dst ty pos after guard hf hs.inn
  refine ⟨_, _, w, _, ⟨if c = j then p else pAdd p (j * s), c - j, rfl, rfl⟩, ⟨q, sA_from hA hj, hd, hs2⟩, .inr rfl, .inl ?_⟩
  rw [hr, List.length_drop]
theorem G.sliceFrom {α : Type} {ops : Array Oper} {rest : List Oper} {T T' c j sl : Nat} {g : Bool} {e s sz : Nat} {en : α → List Value} {x y : Operand} {ik : IntKind} {p : Option Addr} {l : List α} {R : List Assn} {ty : TypeId} {pos : String} {after : Array Edge} (hx : ev κ x = some (.slice p l.length c)) (hy : ev κ y = some (.int ik (j : Int))) (hT : slt P T = some (e, g, s)) (hsz : s = sz) (hp : Pick H (sA T' sz en p c l) R) (hj : j ≤ l.length) (hsl : Nat.blt sl n = true)
    (k : ∀ p' c', G P ops Q n d F rest ((sl, .slice p' (l.drop j).length c') :: κ) (sA T' sz en p' c' (l.drop j) :: R)) : G P ops Q n d F (⟨some sl, .slice T x (some y) none none, ty, pos, after, none⟩ :: rest) κ H :=
  G.acts (Acts.sliceFrom hx hy hT hsz hp hj) hsl (fun _ _ ⟨p', c', h1, h2⟩ => by cases h1; subst h2; exact k p' c') (fun _ ⟨_, _, h, _⟩ => by cases h)
theorem GD.sliceFrom {α : Type} {ops : List Oper} {T T' c j sl i fuel : Nat} {listed listed' : List Bool} {g : Bool} {e s sz : Nat} {en : α → List Value} {x y : Operand} {ik : IntKind} {p : Option Addr} {l : List α} {R : List Assn} {ty : TypeId} {pos : String} {after : Array Edge} (hi : ops[i]? = some ⟨some sl, .slice T x (some y) none none, ty, pos, after, none⟩) (hm : only ops listed i = true) (hl : setL listed i = some listed') (hx : ev κ x = some (.slice p l.length c)) (hy : ev κ y = some (.int ik (j : Int))) (hT : slt P T = some (e, g, s)) (hsz : s = sz) (hp : Pick H (sA T' sz en p c l) R) (hj : j ≤ l.length) (hsl : Nat.blt sl n = true)
    (k : ∀ p' c', GD P ops Q n d F fuel listed' ((sl, .slice p' (l.drop j).length c') :: κ) (sA T' sz en p' c' (l.drop j) :: R)) : GD P ops Q n d F (fuel + 1) listed κ H :=
  GD.acts hi hm hl (Acts.sliceFrom hx hy hT hsz hp hj) hsl (fun _ _ ⟨p', c', h1, h2⟩ => by cases h1; subst h2; exact k p' c') (fun _ ⟨_, _, h, _⟩ => by cases h)
def nthV : List Value → Nat → Option Value
  | [], _ => none
  | v :: _, 0 => some v
  | _ :: l, k + 1 => nthV l k
theorem nthV_eq : ∀ (l : List Value) (k : Nat), nthV l k = l[k]?
  | [], k => by simp [nthV]
  | v :: l, 0 => rfl
  | v :: l, k + 1 => by simp only [nthV, List.getElem?_cons_succ]; exact nthV_eq l k
theorem RO.extractL {x : Operand} {i : Nat} {l : List Value} {v : Value} (hx : ev κ x = some (.tuple l.toArray)) (hi : nthV l i = some v) : RO P κ F (.extract x i) v :=
  RO.extract hx (by rw [← hi, nthV_eq]; simp)

/-! operations with a guard that lets them -/
theorem GD.rdG {ops : List Oper} {i s fuel : Nat} {op : Op} {ty : TypeId} {pos : String} {after : Array Edge} {g : Nat × Bool} {listed listed' : List Bool} {v : Value} (hi : ops[i]? = some ⟨some s, op, ty, pos, after, some g⟩) (hg : guardK ops.toArray κ g = some true) (hm : only ops listed i = true) (hl : setL listed i = some listed')
    (h : RD P κ H F op v) (hs : Nat.blt s n = true) (k : GD P ops Q n d F fuel listed' ((s, v) :: κ) H) : GD P ops Q n d F (fuel + 1) listed κ H := by
  refine GD.one hi hm hl ?_
  intro K hK a w hf hsat
  refine ⟨guardK_spec hf hg, ?_⟩
  unfold Oper.wp
  rw [h n d a w _ _ _ _ _ hf hsat, Oper.upon_value]; exact hK _ _ _ w (hf.put hs) hsat k
theorem run_callVG {f : FuncId} {first caps vs l1 l2 : List Value} {x : Operand} {xs : Array Operand} {ats : Array TypeId} {dst : Option Tmp} {ty : TypeId} {pos : String} {after : Array Edge} {guard : Option (Nat × Bool)} {a : Act} {w : World} (hf : Fr n κ d a) (hr : Real P f)
    (hx : ev κ x = some (.func (.func f) first.toArray caps.toArray)) (hxs : evs κ xs.toList = some vs) (h1 : App first vs l1) (h2 : App l1 caps l2) :
    (execOp a.eval ⟨dst, .call { callee := .value x, args := xs, argTypes := ats }, ty, pos, after, guard⟩).run P w = .ok (.enter f l2.toArray) w := run_callV hf hr hx hxs h1 h2
theorem GD.callG {ops : List Oper} {i fuel : Nat} {listed listed' : List Bool} {f : FuncId} {first caps vs l1 l2 : List Value} {x : Operand} {xs : Array Operand} {ats : Array TypeId} {s : Nat} {ty : TypeId} {pos : String} {after : Array Edge} {g : Nat × Bool} {Hp Hr : List Assn} {R : Value → List Assn → Prop}
    (hi : ops[i]? = some ⟨some s, .call { callee := .value x, args := xs, argTypes := ats }, ty, pos, after, some g⟩) (hg : guardK ops.toArray κ g = some true) (hm : only ops listed i = true) (hl : setL listed i = some listed')
    (hx : ev κ x = some (.func (.func f) first.toArray caps.toArray)) (hxs : evs κ xs.toList = some vs) (h1 : App first vs l1) (h2 : App l1 caps l2) (hS : Split H Hp Hr)
    (spec : ∀ G, F.le G → (∀ A ∈ Hr, G.has A) → FnOk P f l2 Hp G R) (hs : Nat.blt s n = true)
    (k : ∀ v H', R v H' → GD P ops Q n d F fuel listed' ((s, v) :: κ) (H' ++ Hr)) : GD P ops Q n d F (fuel + 1) listed κ H := by
  refine GD.one hi hm hl ?_
  intro K hK a w hf hsat
  refine ⟨guardK_spec hf hg, ?_⟩
  obtain ⟨F', hle, hhas, hsat', hback⟩ := Sat.frame Hr (hsat.split hS).append_comm
  have hsp := spec F' hle hhas
  refine wp_call (run_callV hf hsp.real hx hxs h1 h2) ((hsp.calls w hsat').mono ?_)
  rintro e w' ⟨v, H', rfl, hR, hs'⟩
  exact ⟨v, rfl, hK _ _ _ w' (hf.put hs) (hback _ _ hs').append_comm (k v H' hR)⟩
/-- An operation whose guard keeps it, when it is the only one that may come up. -/
theorem GD.skipG {ops : List Oper} {i s fuel : Nat} {op : Op} {ty : TypeId} {pos : String} {after : Array Edge} {g : Nat × Bool} {listed listed' : List Bool} (hi : ops[i]? = some ⟨some s, op, ty, pos, after, some g⟩) (hg : guardK ops.toArray κ g = some false) (hm : mayTake ops listed i = true) (hl : setL listed i = some listed')
    (hs : Nat.blt s n = true) (k : GD P ops Q n d F fuel listed' ((s, undef) :: κ) H) : GD P ops Q n d F (fuel + 1) listed κ H := GD.passG hi hg hm hl hs k
end Go.Sl
/- The engine, part 24: from a law's arguments to the frame, and back to what the statement asks. -/
namespace Go.Sl
open Go Go.ChangeShapes

/-- The frame of a whole world. -/
def frmOf (W : World) : Frm := ⟨fun b => W.heap[b]?, W.os, W.tape, W.output⟩
theorem frmOf_in (W : World) : (frmOf W).In W := ⟨fun _ _ h => h, rfl, rfl, rfl⟩

theorem trodAll_carry {H : Type} {enc : TypeId × Value → H} {P : Program} {w w' : World} {base : Nat} {spare : Nat → Bool} {held : Bool} : ∀ {ts : List TypeId} {vs : List Value} {ds : List (DataW H)} {ps : List MemPlace},
    DataW.TrodAll enc P w base spare held ts vs ds ps → (∀ p ∈ ps, w.sameAt w' p) → DataW.TrodAll enc P w' base spare held ts vs ds ps
  | [], [], [], _, h, _ => h
  | _ :: _, _ :: _, _ :: _, _, ⟨p, q, ⟨n, h1⟩, h2, e⟩, hs => ⟨p, q, ⟨n, DataW.trod_carry n _ _ _ h1 (fun x hx => hs x (by rw [e]; exact List.mem_append_left _ hx))⟩, trodAll_carry h2 (fun x hx => hs x (by rw [e]; exact List.mem_append_right _ hx)), e⟩

/-- A law that holds, over a world that keeps all that it had. -/
theorem post_kept {H : Type} {enc : TypeId × Value → H} {P : Program} {f : Func} {s : ChangeSpec} {apart fresh handsOn again : Bool} {W W' : World} {args : Array Value} {ds gs : List (DataW H)} {before : List MemPlace} {tb : TypeId}
    {T : TypeId → Prop} (K : Kids P T) (hz : ∀ t e, T t → P.underlying t = some (.slice e) → 0 < P.cellsOf e)
    (hts : ∀ t ∈ f.params.toList, T t) (hvars : s.vars = []) (hr : f.resultTypes = #[tb]) (hb : P.underlying tb = some .bool)
    (hW : DataW.Whole enc P f.params.toList s.vars apart W args.toList ds gs before)
    (hfn : s.fn H (ds ++ gs) = ⟨[.lit (.bool true)], ds, []⟩) (hin : (frmOf W).In W') :
    s.post enc P f apart fresh handsOn again W args (.bool true) W' := by
  have hheap : ∀ b o, W.heap[b]? = some o → W'.heap[b]? = some o := hin.h
  have hlt := hW.lt
  have hsame : ∀ p ∈ before, W.sameAt W' p := fun p hp => by
    have h1 := hlt p hp
    have h2 : W.heap[p.block]? = some W.heap[p.block] := Array.getElem?_eq_getElem h1
    have h3 := hheap _ _ h2
    cases p with
    | cell b off => simp only [MemPlace.block] at h2 h3; simp [World.sameAt, World.cell?, h2, h3]
    | map b => simp only [MemPlace.block] at h2 h3; simp [World.sameAt, h2, h3]
  have hW0 := hW
  obtain ⟨p, q, hA, hV, rfl, hnf, hnd⟩ := hW0
  rw [hvars] at hV
  obtain ⟨rfl, rfl⟩ := trodVars_none hV
  rw [List.append_nil] at hsame hlt hnf hnd hW
  have hres : ∀ (b : Nat) (sp : Nat → Bool) (hd : Bool), DataW.TrodAll enc P W' b sp hd f.resultTypes.toList ((Value.bool true).resultList f.resultTypes.size) (s.fn H (ds ++ [])).results [] := fun b sp hd => by
    rw [hfn, hr]
    exact trodAll_mk1 (RowKit.shut_bool hb true)
  have hcarry : ∀ sp : Nat → Bool, (∀ x ∈ p, sp x.block = true) → DataW.TrodAll enc P W' 0 sp true f.params.toList args.toList ds p := fun sp hsp => by
    refine DataW.TrodAll.respare K hz hts ?_ hsp
    exact trodAll_carry hA hsame
  have hfz : ∀ x ∈ p, ∀ b off, x = .cell b off → W'.frozen? ⟨b, off, none⟩ = W.frozen? ⟨b, off, none⟩ := fun x hx b off e => by
    subst e
    have h1 := hlt _ hx
    have h2 : W.heap[b]? = some W.heap[b] := Array.getElem?_eq_getElem h1
    have h3 := hheap _ _ h2
    simp [World.frozen?, h2, h3]
  have hold : ∀ x ∈ p, (fun b => decide (b < W.heap.size)) x.block = true := fun x hx => by simpa using hlt x hx
  refine ⟨ds, [], p, [], p, [], hW, hres _ _ _, ?_, ?_, ?_, fun _ => ⟨?_, [.lit (.bool true)] ++ ds, [], ([] ++ p) ++ [], ⟨[] ++ p, [], ?_, ?_, rfl, ?_, ?_⟩, ?_⟩⟩
  · rw [hfn]; exact hcarry _ hold
  · rw [hfn, hvars]; rfl
  · refine ⟨hin.os, hin.out, fun i hi => ?_⟩
    have h2 : W.heap[i]? = some W.heap[i] := Array.getElem?_eq_getElem hi
    rw [h2, hheap _ _ h2]
    cases W.heap[i] <;> simp
  · exact RowKit.ok_one hr rfl (RowKit.okWide_bool_mk hb true)
  · have h1 := hres 0 (fun _ => true) true
    rw [hfn] at h1
    exact trodAll_append (hcarry _ (fun _ _ => rfl)) h1
  · rw [hvars]; rfl
  · intro b off hx
    simp only [List.nil_append, List.append_nil] at hx
    rw [hfz _ hx b off rfl]
    exact hnf b off hx
  · intro ha
    simpa using hnd ha
  · intro x hx _
    simpa using hx

/-! arguments: slices -/
theorem has_row {α : Type} {W : World} {b off c sz : Nat} {T : TypeId} {cs : Array Value} {fr : Nat × Nat} {e : α → List Value} {l : List α} (hb : W.heap[b]? = some (.cells cs T fr)) (hz : nfz fr off (off + c * sz)) (hc : off + c * sz ≤ cs.size) (hl : l.length ≤ c)
    (h : ∀ i a, l[i]? = some a → subl cs.toList (off + i * sz) sz = some (e a)) : (frmOf W).has (sA T sz e (some ⟨b, off, none⟩) c l) :=
  ⟨fun b' => W.heap[b']?, .inr ⟨b, off, cs.toList, fr, rfl, by simpa using hb, hz, by simpa using hc, hl, h⟩, fun _ _ h => h⟩
theorem has_row0 {α : Type} {W : World} {T sz : Nat} {e : α → List Value} {p : Option Addr} : (frmOf W).has (sA T sz e p 0 ([] : List α)) :=
  ⟨fun _ => none, .inl ⟨rfl, rfl⟩, fun _ _ h => by cases h⟩

/-- What reading a slice gives: each element's cells, read. -/
theorem trod_row {H : Type} {enc : TypeId × Value → H} {P : Program} {W : World} {fuel : Nat} {t e : TypeId} {vs : List Value} {x : DataW H × List MemPlace} (ht : P.underlying t = some (.slice e)) (hpos : 0 < P.cellsOf e)
    (h : DataW.trod enc P W 0 (fun _ => true) true fuel t vs = some x) (hnf : ∀ b off, MemPlace.cell b off ∈ x.2 → W.frozen? ⟨b, off, none⟩ = false) :
    ∃ (p : Option Addr) (len c : Nat), vs = [.slice p len c] ∧ len ≤ c ∧ c ≤ maxLen ∧ ((c = 0) ∨ ∃ b off cs T fr, p = some ⟨b, off, none⟩ ∧ W.heap[b]? = some (.cells cs T fr) ∧ nfz fr off (off + c * P.cellsOf e) ∧ off + c * P.cellsOf e ≤ cs.size ∧
      ∀ i, i < len → ∃ (r : List Value) (y : DataW H × List MemPlace) (n : Nat), subl cs.toList (off + i * P.cellsOf e) (P.cellsOf e) = some r ∧ DataW.trod enc P W 0 (fun _ => true) true n e r = some y ∧ ∀ z ∈ y.2, z ∈ x.2) := by
  rcases DataW.trod_slice ht h with ⟨h1, _⟩ | ⟨a, len, c, els, rest, n, _, h1, rfl, _, hlc, hcm, hel, hget, hsp, _⟩
  · exact ⟨none, 0, 0, h1, Nat.le_refl _, by simp [maxLen], .inl rfl⟩
  · refine ⟨some a, len, c, h1, hlc, hcm, ?_⟩
    rcases Nat.eq_zero_or_pos c with hc | hc
    · exact .inl hc
    right
    obtain ⟨hrl, hrest⟩ := hsp rfl
    -- each element's cells
    have hcells : ∀ i, i < c → ∃ r, W.cells? 0 (a.add (i * P.cellsOf e)) (P.cellsOf e) = some r := fun i hi => by
      by_cases h2 : i < len
      · have h3 := hget i h2
        rw [List.getElem?_eq_getElem (by omega)] at h3
        obtain ⟨r, hr, _⟩ := Option.bind_eq_some_iff.1 h3
        exact ⟨r, hr⟩
      · have h3 := hrest (i - len) (by omega)
        rw [List.getElem?_eq_getElem (by omega)] at h3
        obtain ⟨r, hr, _⟩ := Option.bind_eq_some_iff.1 h3
        rw [show len + (i - len) = i from by omega] at hr
        exact ⟨r, hr⟩
    have hcell : ∀ i j, i < c → j < P.cellsOf e → ∃ v, W.cell? ((a.add (i * P.cellsOf e)).add j) = some v := fun i j hi hj => by
      obtain ⟨r, hr⟩ := hcells i hi
      simp only [World.cells?, Nat.zero_le, if_true] at hr
      have := mapM_some_get hr j j (by simp [hj])
      have hl := mapM_some_length hr
      rw [List.getElem?_eq_getElem (by simp at hl; omega)] at this
      exact ⟨_, this⟩
    have h00 := hcell 0 0 hc hpos
    have e00 : (a.add (0 * P.cellsOf e)).add 0 = a := by simp [Addr.add]
    rw [e00] at h00
    obtain ⟨b, off, sp⟩ := a
    have hblk : sp = none ∧ ∃ cs T fr, W.heap[b]? = some (.cells cs T fr) := by
      obtain ⟨v0, hv0⟩ := h00
      simp only [World.cell?] at hv0
      split at hv0
      · rename_i cs T fr hh
        split at hv0
        · cases hv0
        · rename_i hs
          exact ⟨by simpa using hs, cs, T, fr, hh⟩
      · cases hv0
    obtain ⟨rfl, cs, T, fr, hb⟩ := hblk
    have hidx : ∀ i j, W.cell? (((⟨b, off, none⟩ : Addr).add (i * P.cellsOf e)).add j) = cs[off + i * P.cellsOf e + j]? := fun i j => by
      rw [Addr.add_none, Addr.add_none]
      simp [World.cell?, hb]
    have hsize : off + c * P.cellsOf e ≤ cs.size := by
      obtain ⟨v0, hv0⟩ := hcell (c - 1) (P.cellsOf e - 1) (by omega) (by omega)
      rw [hidx] at hv0
      obtain ⟨h2, _⟩ := Array.getElem?_eq_some_iff.1 hv0
      have : c * P.cellsOf e = (c - 1) * P.cellsOf e + P.cellsOf e := by rw [← Nat.succ_mul]; congr 1; omega
      omega
    refine ⟨b, off, cs, T, fr, rfl, hb, ?_, hsize, ?_⟩
    · intro j hj1 hj2 hfz
      have hm : MemPlace.cell b j ∈ MemPlace.row (⟨b, off, none⟩ : Addr) ((els.length + rest.length) * P.cellsOf e) :=
        MemPlace.mem_row.2 ⟨j - off, by rw [hel, hrl, show len + (c - len) = c from by omega]; omega, by simp [show off + (j - off) = j from by omega]⟩
      have h2 := hnf b j (List.mem_append_left _ hm)
      simp [World.frozen?, hb] at h2
      omega
    · intro i hi
      have h3 := hget i hi
      rw [List.getElem?_eq_getElem (by omega)] at h3
      obtain ⟨r, hr, hy⟩ := Option.bind_eq_some_iff.1 h3
      have hmul : (i + 1) * P.cellsOf e ≤ c * P.cellsOf e := Nat.mul_le_mul_right _ (by omega)
      rw [Nat.add_mul] at hmul
      refine ⟨r, _, n, ?_, hy, fun z hz => List.mem_append_right _ (List.mem_flatMap.2 ⟨_, List.mem_append_left _ (List.getElem_mem _), hz⟩)⟩
      simp only [World.cells?, Nat.zero_le, if_true] at hr
      have hl := mapM_some_length hr
      refine subl_mk (by simpa using hl) (by simp; omega) (fun j hj => ?_)
      have h4 := mapM_some_get hr j j (by simp [hj])
      rw [hidx] at h4
      rw [← h4]
      simp
end Go.Sl
/- The program's data as plain Lean, and how each is written in cells. -/
namespace Go.En
open Go Go.Sl

structure Shape where
  (gpus cpus mn mx : Int)
  deriving DecidableEq
structure Free where
  (node dom mask cpus : Int)
  deriving DecidableEq
structure Units where
  (gpus cpus : Int)
  deriving DecidableEq
structure Job where
  (id queue prio runtime : Int) (shape : Shape)
  deriving DecidableEq
structure Wait where
  (job : Job) (since number : Int)
  deriving DecidableEq
structure Record where
  (job : Job) (state since number members began fin limit worker : Int)
  deriving DecidableEq
structure Event where
  (kind id n : Int)
  deriving DecidableEq
structure Act where
  (kind n : Int) (job : Job)
  deriving DecidableEq
/-- a slot is written as a spot's free units are -/
abbrev Slot := Free

abbrev Shape.cells (s : Shape) : List Value := [.int .i64 s.gpus, .int .i64 s.cpus, .int .i64 s.mn, .int .i64 s.mx]
abbrev Shape.enc (s : Shape) : Value := .agg #[.int .i64 s.gpus, .int .i64 s.cpus, .int .i64 s.mn, .int .i64 s.mx]
abbrev Free.cells (f : Free) : List Value := [.int .i64 f.node, .int .i64 f.dom, .int .u64 f.mask, .int .i64 f.cpus]
abbrev Free.enc (f : Free) : Value := .agg #[.int .i64 f.node, .int .i64 f.dom, .int .u64 f.mask, .int .i64 f.cpus]
abbrev Units.cells (u : Units) : List Value := [.int .i64 u.gpus, .int .i64 u.cpus]
abbrev Units.enc (u : Units) : Value := .agg #[.int .i64 u.gpus, .int .i64 u.cpus]
abbrev Job.cells (j : Job) : List Value := [.int .i64 j.id, .int .i64 j.queue, .int .i64 j.prio, .int .i64 j.runtime, .int .i64 j.shape.gpus, .int .i64 j.shape.cpus, .int .i64 j.shape.mn, .int .i64 j.shape.mx]
abbrev Job.enc (j : Job) : Value := .agg #[.int .i64 j.id, .int .i64 j.queue, .int .i64 j.prio, .int .i64 j.runtime, .int .i64 j.shape.gpus, .int .i64 j.shape.cpus, .int .i64 j.shape.mn, .int .i64 j.shape.mx]
abbrev Wait.cells (x : Wait) : List Value := [.int .i64 x.job.id, .int .i64 x.job.queue, .int .i64 x.job.prio, .int .i64 x.job.runtime, .int .i64 x.job.shape.gpus, .int .i64 x.job.shape.cpus, .int .i64 x.job.shape.mn, .int .i64 x.job.shape.mx, .int .i64 x.since, .int .i64 x.number]
abbrev Wait.enc (x : Wait) : Value := .agg (Wait.cells x).toArray
abbrev Record.cells (x : Record) : List Value := [.int .i64 x.job.id, .int .i64 x.job.queue, .int .i64 x.job.prio, .int .i64 x.job.runtime, .int .i64 x.job.shape.gpus, .int .i64 x.job.shape.cpus, .int .i64 x.job.shape.mn, .int .i64 x.job.shape.mx,
  .int .i64 x.state, .int .i64 x.since, .int .i64 x.number, .int .i64 x.members, .int .i64 x.began, .int .i64 x.fin, .int .i64 x.limit, .int .i64 x.worker]
abbrev Record.enc (x : Record) : Value := .agg (Record.cells x).toArray
abbrev Event.cells (x : Event) : List Value := [.int .i64 x.kind, .int .i64 x.id, .int .i64 x.n]
abbrev Event.enc (x : Event) : Value := .agg (Event.cells x).toArray
abbrev intE (n : Int) : List Value := [.int .i64 n]

theorem Free.el : El Free.cells 4 := ⟨fun _ => rfl, fun _ => rfl, by decide⟩
theorem Units.el : El Units.cells 2 := ⟨fun _ => rfl, fun _ => rfl, by decide⟩
theorem Wait.el : El Wait.cells 10 := ⟨fun _ => rfl, fun _ => rfl, by decide⟩
theorem Record.el : El Record.cells 16 := ⟨fun _ => rfl, fun _ => rfl, by decide⟩
theorem Event.el : El Event.cells 3 := ⟨fun _ => rfl, fun _ => rfl, by decide⟩
theorem intE.el : El intE 1 := ⟨fun _ => rfl, fun _ => rfl, by decide⟩

end Go.En
