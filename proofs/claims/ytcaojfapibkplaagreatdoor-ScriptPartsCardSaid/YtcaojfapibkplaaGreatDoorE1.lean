/- The engine, part 1: how a walk keeps memory, what one step does, calls and loops. -/
import GoSem.Step
import Derived.WalkKit
import Derived.OrdersHeld
import Derived.WalkLawsBesides
import Derived.LoopN
/- The engine: what is asked of types. -/
namespace Go.Sl
open Go

/-- A value's cells. -/
def vc : Value → Option (List Value)
  | .agg ⟨l⟩ => some l
  | .tuple _ => none
  | v => some [v]

/-- Is a type an aggregate, and how many cells has it. -/
def lyt (P : Program) (T : TypeId) : Option (Bool × Nat) :=
  match P.underlying T, P.info? T with
  | some d, some i => some ((match d with | .struct _ | .array _ _ => true | _ => false), i.size)
  | _, _ => none


/-- A type's zero, cell by cell. -/
def zv (P : Program) (T : TypeId) : Option (List Value) := match P.info? T with | some i => (match i.zero with | some v => vc v | none => none) | none => none


def fo (P : Program) (s f : Nat) : Option Nat :=
  match P.underlying s with
  | some (.struct fs) => match fs[f]? with
    | some fld => match P.info? fld.type with
      | some i => bif Nat.beq i.size 0 then none else some fld.offset
      | none => none
    | none => none
  | _ => none

def plF (P : Program) : List Field → Option (List (Nat × Nat))
  | [] => some []
  | f :: r => match P.info? f.type with
    | some j => (match plF P r with | some l => some ((f.offset, j.size) :: l) | none => none)
    | none => none
/-- Where the parts of a struct, or an array, lie: places and sizes. -/
def pl (P : Program) (T : Nat) : Option (List (Nat × Nat)) :=
  match P.underlying T with
  | some (.struct fs) => plF P fs.toList
  | some (.array m e) => match P.info? e with | some j => some ((List.range m).map fun i => (i * j.size, j.size)) | none => none
  | _ => none

def arr (P : Program) (T : Nat) : Option (Nat × Nat × Bool × Nat) :=
  match P.underlying T with
  | some (.array m e) => (match lyt P e with | some (g, s) => some (m, e, g, s) | none => none)
  | _ => none

/-- A slice, an index that is in range. -/
def slt (P : Program) (T : Nat) : Option (Nat × Bool × Nat) :=
  match P.underlying T with
  | some (.slice e) => (match lyt P e with | some (g, s) => some (e, g, s) | none => none)
  | _ => none

/-- What append asks of a slice's type: the element, its cells, its bytes, its zero. -/
def apt (P : Program) (T : Nat) : Option (Nat × Nat × Nat × List Value) :=
  match P.underlying T with
  | some (.slice e) => (match P.info? e, zv P e, lyt P e with | some i, some z, some (_, s) => bif Nat.beq z.length s && Nat.beq i.size s && Nat.ble i.bytes 1024 then some (e, s, i.bytes, z) else none | _, _, _ => none)
  | _ => none

/-- A map's type: key and element. -/
def mpt (P : Program) (T : Nat) : Option (Nat × Nat) := match P.underlying T with | some (.map k e) => some (k, e) | _ => none
def isStr (P : Program) (T : Nat) : Bool := match P.underlying T with | some .string => true | _ => false
def intK (P : Program) (T : Nat) : Option IntKind := match P.underlying T with | some (.int k) => some k | _ => none
def ptrT (P : Program) (T : Nat) : Option Nat := match P.underlying T with | some (.pointer e) => some e | _ => none
def isUns (P : Program) (T : Nat) : Bool := match P.underlying T with | some .unsafePointer => true | _ => false
def isIfc (P : Program) (T : Nat) : Bool := match P.underlying T with | some (.interface _) => true | _ => false
/-- The zero value. -/
def zro (P : Program) (T : Nat) : Option Value := match P.info? T with | some i => i.zero | none => none
/-- A type that has a size. -/
def szd (P : Program) (T : Nat) : Bool := match P.info? T with | some j => j.size != 0 | none => false

end Go.Sl
/- The engine, part 1: partial heaps, owned assertions, the state that a walk keeps. -/
namespace Go.Sl
open Go

/-- A part of memory. -/
abbrev PH := Nat → Option Obj

/-- What stays: memory that nobody here writes, and the world outside. -/
structure Frm where
  h : PH
  os : Os
  tape : Nat → Question → Nat
  out : Array (Nat × ByteArray)

def PH.le (h g : PH) : Prop := ∀ b o, h b = some o → g b = some o
def PH.Disj (h g : PH) : Prop := ∀ b, h b = none ∨ g b = none
def Frm.add (F : Frm) (h : PH) : Frm := { F with h := fun b => (F.h b).or (h b) }
def Frm.le (F G : Frm) : Prop := PH.le F.h G.h ∧ G.os = F.os ∧ G.tape = F.tape ∧ G.out = F.out

/-- The world holds what the frame says. -/
structure Frm.In (F : Frm) (w : World) : Prop where
  h : ∀ b o, F.h b = some o → w.heap[b]? = some o
  os : w.os = F.os
  tape : w.tape = F.tape
  out : w.output = F.out

abbrev Assn := PH → Prop

/-- Memory b holds object o. -/
def pt (b : Nat) (o : Obj) : Assn := fun h => h b = some o

def Sat : List Assn → Frm → World → Prop
  | [], F, w => F.In w
  | A :: H, F, w => ∃ h, A h ∧ PH.Disj h F.h ∧ Sat H (F.add h) w

def Frm.has (F : Frm) (A : Assn) : Prop := ∃ h, A h ∧ PH.le h F.h

theorem Frm.le_refl (F : Frm) : F.le F := ⟨fun _ _ h => h, rfl, rfl, rfl⟩
theorem Frm.le_trans {F G K : Frm} (h : F.le G) (k : G.le K) : F.le K :=
  ⟨fun b o hb => k.1 b o (h.1 b o hb), k.2.1.trans h.2.1, k.2.2.1.trans h.2.2.1, k.2.2.2.trans h.2.2.2⟩
theorem Frm.le_add (F : Frm) (h : PH) : F.le (F.add h) := ⟨fun b o hb => by simp [Frm.add, hb], rfl, rfl, rfl⟩
theorem Frm.has_mono {F G : Frm} {A : Assn} (h : F.has A) (k : F.le G) : G.has A :=
  let ⟨p, hp, hl⟩ := h; ⟨p, hp, fun b o hb => k.1 b o (hl b o hb)⟩
theorem Frm.has_add {F : Frm} {A : Assn} {h : PH} (hA : A h) (hd : PH.Disj h F.h) : (F.add h).has A :=
  ⟨h, hA, fun b o hb => by
    rcases hd b with h1 | h1
    · rw [h1] at hb; cases hb
    · simp [Frm.add, h1, hb]⟩
theorem Frm.In.mono {F G : Frm} {w : World} (h : G.In w) (k : F.le G) : F.In w :=
  ⟨fun b o hb => h.h b o (k.1 b o hb), h.os.trans k.2.1, h.tape.trans k.2.2.1, h.out.trans k.2.2.2⟩

theorem Sat.inn : ∀ {H : List Assn} {F : Frm} {w : World}, Sat H F w → F.In w
  | [], _, _, h => h
  | _ :: _, F, _, ⟨h, _, _, hs⟩ => (Sat.inn hs).mono (F.le_add h)

/-- Less is asked of the frame. -/
theorem Sat.weaken : ∀ {H : List Assn} {F G : Frm} {w : World}, Sat H G w → F.le G → Sat H F w
  | [], _, _, _, h, k => h.mono k
  | _ :: _, F, G, _, ⟨h, hA, hd, hs⟩, k => by
    refine ⟨h, hA, fun b => ?_, Sat.weaken hs ?_⟩
    · rcases hd b with h1 | h1
      · exact .inl h1
      · right
        cases hb : F.h b with
        | none => rfl
        | some o => rw [k.1 b o hb] at h1; cases h1
    · refine ⟨fun b o hb => ?_, k.2.1, k.2.2.1, k.2.2.2⟩
      simp only [Frm.add] at hb ⊢
      cases hF : F.h b with
      | some o' => simp [hF] at hb; subst hb; simp [k.1 b _ hF]
      | none =>
        simp [hF] at hb
        rcases hd b with h1 | h1
        · rw [h1] at hb; cases hb
        · simp [h1, hb]

theorem Sat.drop {A : Assn} {H : List Assn} {F : Frm} {w : World} (h : Sat (A :: H) F w) : Sat H F w :=
  let ⟨p, _, _, hs⟩ := h; hs.weaken (F.le_add p)

theorem Frm.add_comm {F : Frm} {h g : PH} (hd : PH.Disj h g) : (F.add h).add g = (F.add g).add h := by
  simp only [Frm.add, Frm.mk.injEq, and_true]
  funext b
  rcases hd b with h1 | h1 <;> cases F.h b <;> simp [h1]

theorem Sat.swap {A B : Assn} {H : List Assn} {F : Frm} {w : World} (h : Sat (A :: B :: H) F w) : Sat (B :: A :: H) F w := by
  obtain ⟨p, hA, hd, q, hB, hd', hs⟩ := h
  have hpq : PH.Disj p q := fun b => by
    rcases hd' b with h1 | h1
    · exact .inr h1
    · simp only [Frm.add, Option.or_eq_none_iff] at h1; exact .inl h1.2
  refine ⟨q, hB, fun b => ?_, p, hA, fun b => ?_, ?_⟩
  · rcases hd' b with h1 | h1
    · exact .inl h1
    · simp only [Frm.add, Option.or_eq_none_iff] at h1; exact .inr h1.1
  · rcases hd b with h1 | h1
    · exact .inl h1
    · rcases hpq b with h2 | h2
      · exact .inl h2
      · exact .inr (by simp [Frm.add, h1, h2])
  · rw [Frm.add_comm (fun b => (hpq b).symm)]; exact hs

theorem Sat.imp {H : List Assn} {A B : Assn} {F : Frm} {w : World} (h : Sat (A :: H) F w) (k : ∀ p, A p → B p) : Sat (B :: H) F w :=
  let ⟨p, hA, hd, hs⟩ := h; ⟨p, k p hA, hd, hs⟩

/-- Under a head. -/
theorem Sat.under {A : Assn} {H H' : List Assn} {F : Frm} {w w' : World} (h : Sat (A :: H) F w) (k : ∀ F, Sat H F w → Sat H' F w') : Sat (A :: H') F w' :=
  let ⟨p, hA, hd, hs⟩ := h; ⟨p, hA, hd, k _ hs⟩

/-! Evidence on lists. -/
/-- B stands in H; the rest is H'. -/
inductive Pick {α : Type _} : List α → α → List α → Prop
  | h {A H} : Pick (A :: H) A H
  | t {A B H H'} : Pick H A H' → Pick (B :: H) A (B :: H')
/-- A's place in H is taken by B. -/
inductive Upd {α : Type _} : List α → α → α → List α → Prop
  | h {A B H} : Upd (A :: H) A B (B :: H)
  | t {A B C H H'} : Upd H A B H' → Upd (C :: H) A B (C :: H')
/-- H is X and Y, shuffled; X in the order told. -/
inductive Split {α : Type _} : List α → List α → List α → Prop
  | n {H} : Split H [] H
  | p {A H H' X R} : Pick H A H' → Split H' X R → Split H (A :: X) R
inductive App {α : Type _} : List α → List α → List α → Prop
  | n {Y} : App [] Y Y
  | c {A X Y Z} : App X Y Z → App (A :: X) Y (A :: Z)

theorem App.eq {α : Type _} {X Y Z : List α} (h : App X Y Z) : Z = X ++ Y := by induction h <;> simp_all

theorem Sat.pick {H : List Assn} {A : Assn} {H' : List Assn} (p : Pick H A H') : ∀ {F : Frm} {w : World}, Sat H F w → Sat (A :: H') F w := by
  induction p with
  | h => exact id
  | t _ ih => exact fun h => (h.under fun _ => ih).swap

theorem Sat.unpick {H : List Assn} {A : Assn} {H' : List Assn} (p : Pick H A H') : ∀ {F : Frm} {w : World}, Sat (A :: H') F w → Sat H F w := by
  induction p with
  | h => exact id
  | t _ ih => exact fun h => h.swap.under fun _ => ih

theorem Upd.picks {α : Type _} {H : List α} {A B : α} {H' : List α} (u : Upd H A B H') : ∃ R, Pick H A R ∧ Pick H' B R := by
  induction u with
  | h => exact ⟨_, .h, .h⟩
  | t _ ih => obtain ⟨R, h1, h2⟩ := ih; exact ⟨_, .t h1, .t h2⟩

theorem Sat.split {H X R : List Assn} (s : Split H X R) : ∀ {F : Frm} {w : World}, Sat H F w → Sat (X ++ R) F w := by
  induction s with
  | n => exact id
  | p hp _ ih => exact fun h => (h.pick hp).under fun _ => ih

theorem Sat.append_comm {X Y : List Assn} : ∀ {F : Frm} {w : World}, Sat (X ++ Y) F w → Sat (Y ++ X) F w := by
  induction X with
  | nil => intro F w h; simpa using h
  | cons A X ih =>
    intro F w h
    have h1 : Sat (A :: (Y ++ X)) F w := h.under fun _ => ih
    clear h ih
    induction Y generalizing F with
    | nil => simpa using h1
    | cons B Y ih => exact h1.swap.under fun _ h => ih h

/-- The frame rule's heart: what is not handed on becomes frame, and comes back. -/
theorem Sat.frame : ∀ (R : List Assn) {H : List Assn} {F : Frm} {w : World}, Sat (R ++ H) F w →
    ∃ G, F.le G ∧ (∀ A ∈ R, G.has A) ∧ Sat H G w ∧ ∀ H' w', Sat H' G w' → Sat (R ++ H') F w'
  | [], _, F, _, h => ⟨F, F.le_refl, by simp, h, fun _ _ h => h⟩
  | A :: R, _, F, _, ⟨p, hA, hd, hs⟩ => by
    obtain ⟨G, hle, hhas, hsat, hback⟩ := Sat.frame R hs
    refine ⟨G, Frm.le_trans (F.le_add p) hle, ?_, hsat, fun H' w' h => ⟨p, hA, hd, hback H' w' h⟩⟩
    intro B hB
    rcases List.mem_cons.1 hB with rfl | hB
    · exact Frm.has_mono (Frm.has_add hA hd) hle
    · exact hhas B hB

/-! The world's steps. -/
theorem Sat.pt_head {b : Nat} {o : Obj} {H : List Assn} {F : Frm} {w : World} (h : Sat (pt b o :: H) F w) : w.heap[b]? = some o := by
  obtain ⟨p, hA, hd, hs⟩ := h
  refine hs.inn.h b o ?_
  rcases hd b with h1 | h1
  · rw [show p b = some o from hA] at h1; cases h1
  · simp [Frm.add, h1, show p b = some o from hA]

theorem Frm.has_pt {F : Frm} {b : Nat} {o : Obj} {w : World} (h : F.has (pt b o)) (hw : F.In w) : w.heap[b]? = some o :=
  let ⟨_, hp, hl⟩ := h; hw.h b o (hl b o hp)

/-- Another world that holds the same at each place of H and F. -/
theorem Sat.world : ∀ {H : List Assn} {F : Frm} {w w' : World}, Sat H F w → (∀ (b : Nat) (o : Obj), w.heap[b]? = some o → w'.heap[b]? = some o) →
    w'.os = w.os → w'.tape = w.tape → w'.output = w.output → Sat H F w'
  | [], _, _, _, h, k, ho, ht, hu => ⟨fun b o hb => k b o (h.h b o hb), ho.trans h.os, ht.trans h.tape, hu.trans h.out⟩
  | _ :: _, _, _, _, ⟨p, hA, hd, hs⟩, k, ho, ht, hu => ⟨p, hA, hd, hs.world k ho ht hu⟩

theorem Sat.drawn {H : List Assn} {F : Frm} {w : World} {n : Nat} (h : Sat H F w) : Sat H F { w with drawn := n } :=
  h.world (fun _ _ h => h) rfl rfl rfl

/-- More memory, fresh. -/
theorem Sat.more {g : PH} : ∀ {H : List Assn} {F : Frm} {w w' : World}, Sat H F w → (∀ (b : Nat) (o : Obj), w.heap[b]? = some o → w'.heap[b]? = some o ∧ g b = none) →
    (∀ (b : Nat) (o : Obj), g b = some o → w'.heap[b]? = some o) → w'.os = w.os → w'.tape = w.tape → w'.output = w.output → Sat H (F.add g) w'
  | [], F, _, _, h, k, hg, ho, ht, hu => ⟨fun b o hb => by
      simp only [Frm.add] at hb
      cases hF : F.h b with
      | some o' => simp [hF] at hb; subst hb; exact (k b _ (h.h b _ hF)).1
      | none => simp [hF] at hb; exact hg b o hb, ho.trans h.os, ht.trans h.tape, hu.trans h.out⟩
  | _ :: _, F, w, _, ⟨p, hA, hd, hs⟩, k, hg, ho, ht, hu => by
    have hpg : PH.Disj p g := fun b => by
      cases hp : p b with
      | none => exact .inl rfl
      | some o =>
        right
        refine (k b o (hs.inn.h b o ?_)).2
        rcases hd b with h1 | h1
        · rw [h1] at hp; cases hp
        · simp [Frm.add, h1, hp]
    refine ⟨p, hA, fun b => ?_, ?_⟩
    · rcases hpg b with h1 | h1
      · exact .inl h1
      · rcases hd b with h2 | h2
        · exact .inl h2
        · exact .inr (by simp [Frm.add, h1, h2])
    · rw [Frm.add_comm (fun b => (hpg b).symm)]
      exact hs.more k hg ho ht hu

theorem Sat.alloc {H : List Assn} {F : Frm} {w : World} (h : Sat H F w) (o : Obj) : Sat (pt w.heap.size o :: H) F { w with heap := w.heap.push o } := by
  refine ⟨fun b => if b = w.heap.size then some o else none, by simp [pt], fun b => ?_, ?_⟩
  · by_cases hb : b = w.heap.size
    · right
      cases hF : F.h b with
      | none => rfl
      | some o' =>
        have := h.inn.h b o' hF
        subst hb
        simp at this
    · left; simp [hb]
  · refine h.more (fun b o' hb => ?_) (fun b o' hb => ?_) rfl rfl rfl
    · have hlt : b < w.heap.size := by
        rcases Nat.lt_or_ge b w.heap.size with h' | h'
        · exact h'
        · rw [Array.getElem?_eq_none h'] at hb; cases hb
      constructor
      · show (w.heap.push o)[b]? = _
        rw [Array.getElem?_push, if_neg (by omega)]; exact hb
      · simp; omega
    · split at hb
      · rename_i e; subst e; simp at hb; subst hb; show (w.heap.push o)[_]? = _; simp
      · cases hb

/-- The object at a place of one's own is another one now. -/
theorem Sat.put {b : Nat} {o o' : Obj} {H : List Assn} {F : Frm} {w w' : World} (h : Sat (pt b o :: H) F w)
    (hb : w'.heap[b]? = some o') (k : ∀ c, c ≠ b → w'.heap[c]? = w.heap[c]?) (ho : w'.os = w.os) (ht : w'.tape = w.tape) (hu : w'.output = w.output) :
    Sat (pt b o' :: H) F w' := by
  obtain ⟨p, hA, hd, hs⟩ := h
  have hpb : p b = some o := hA
  have hFb : F.h b = none := by rcases hd b with h1 | h1; (rw [hpb] at h1; cases h1); exact h1
  -- everything but b
  have hs1 : Sat H F w := hs.weaken (F.le_add p)
  have key : ∀ {H : List Assn} {G : Frm}, Sat H G w → G.h b = some o → ∀ G', G'.h = (fun c => if c = b then some o' else G.h c) → G'.os = G.os → G'.tape = G.tape → G'.out = G.out → Sat H G' w' := by
    intro H
    induction H with
    | nil =>
      intro G hG hGb G' h1 h2 h3 h4
      refine ⟨fun c x hc => ?_, (ho.trans hG.os).trans h2.symm, (ht.trans hG.tape).trans h3.symm, (hu.trans hG.out).trans h4.symm⟩
      rw [h1] at hc
      by_cases hcb : c = b
      · subst hcb; simp at hc; subst hc; exact hb
      · simp [hcb] at hc; rw [k c hcb]; exact hG.h c x hc
    | cons A H ih =>
      rintro G ⟨q, hq, hqd, hqs⟩ hGb G' h1 h2 h3 h4
      have hqb : q b = none := by rcases hqd b with h | h; exact h; (rw [hGb] at h; cases h)
      refine ⟨q, hq, fun c => ?_, ih hqs (by simp [Frm.add, hGb]) _ ?_ h2 h3 h4⟩
      · by_cases hcb : c = b
        · subst hcb; exact .inl hqb
        · rcases hqd c with h | h
          · exact .inl h
          · exact .inr (by rw [h1]; simp [hcb, h])
      · simp only [Frm.add, h1]
        funext c
        by_cases hcb : c = b
        · subst hcb; simp
        · simp [hcb]
  refine ⟨fun c => if c = b then some o' else p c, by simp [pt], fun c => ?_, ?_⟩
  · by_cases hcb : c = b
    · subst hcb; exact .inr hFb
    · rcases hd c with h1 | h1
      · exact .inl (by simp [hcb, h1])
      · exact .inr h1
  · refine key hs (by simp [Frm.add, hFb, hpb]) _ ?_ rfl rfl rfl
    simp only [Frm.add]
    funext c
    by_cases hcb : c = b
    · subst hcb; simp [hFb]
    · simp [hcb]

end Go.Sl
/- The engine, part 2: what is known of the slots; operations that only compute. -/
namespace Go.Sl
open Go

def lk : List (Nat × Value) → Nat → Option Value
  | [], _ => none
  | (k, v) :: r, s => bif Nat.beq k s then some v else lk r s

structure Fr (n : Nat) (κ : List (Nat × Value)) (d : List Deferred) (a : Act) : Prop where
  size : a.tmps.size = n
  get : ∀ s v, lk κ s = some v → a.tmps[s]? = some v
  defers : a.defers = d

theorem Fr.put {n : Nat} {κ : List (Nat × Value)} {d : List Deferred} {a : Act} {s : Nat} {v : Value} (h : Fr n κ d a) (hs : Nat.blt s n = true) :
    Fr n ((s, v) :: κ) d (a.put (some s) v) := by
  have hs' : s < n := by simpa using hs
  refine ⟨by simp [Act.put, h.size], fun t u ht => ?_, h.defers⟩
  simp only [lk] at ht
  cases hb : Nat.beq s t with
  | true =>
    have e : s = t := Nat.eq_of_beq_eq_true hb
    subst e
    simp at ht
    subst ht
    have : s < a.tmps.size := h.size.symm ▸ hs'
    simp [Act.put, this]
  | false =>
    have e : s ≠ t := Nat.ne_of_beq_eq_false hb
    simp [hb] at ht
    have := h.get t u ht
    simp only [Act.put]
    rw [Array.getElem?_setIfInBounds_ne e]; exact this

theorem Fr.less {n : Nat} {κ κ' : List (Nat × Value)} {d : List Deferred} {a : Act} (h : Fr n κ d a) (k : ∀ s v, lk κ' s = some v → lk κ s = some v) : Fr n κ' d a :=
  ⟨h.size, fun s v hs => h.get s v (k s v hs), h.defers⟩

def ev (κ : List (Nat × Value)) : Operand → Option Value
  | .tmp t => lk κ t
  | .const v => some v
  | .global g => some (.pointer (some ⟨g, 0, none⟩))
  | .func f => some (.func (.func f) #[] #[])

theorem Fr.ev {n : Nat} {κ : List (Nat × Value)} {d : List Deferred} {a : Act} {x : Operand} {v : Value} (h : Fr n κ d a) (he : ev κ x = some v) : a.eval x = v := by
  cases x with
  | tmp t => simp only [Act.eval, Array.getD_eq_getD_getElem?, h.get t v he, Option.getD_some]
  | const u => simpa [Sl.ev, Act.eval] using he
  | global g => simpa [Sl.ev, Act.eval] using he
  | func f => simpa [Sl.ev, Act.eval] using he

def evs (κ : List (Nat × Value)) : List Operand → Option (List Value)
  | [] => some []
  | x :: r => match ev κ x with | some v => (match evs κ r with | some l => some (v :: l) | none => none) | none => none

theorem Fr.evs {n : Nat} {κ : List (Nat × Value)} {d : List Deferred} {a : Act} (h : Fr n κ d a) : ∀ {xs : List Operand} {vs : List Value}, evs κ xs = some vs → xs.map a.eval = vs
  | [], vs, he => by simp only [Sl.evs, Option.some.injEq] at he; simp [← he]
  | x :: r, vs, he => by
    simp only [Sl.evs] at he
    cases h1 : Sl.ev κ x with
    | none => simp [h1] at he
    | some v =>
      cases h2 : Sl.evs κ r with
      | none => simp [h1, h2] at he
      | some l => simp [h1, h2] at he; subst he; simp [h.ev h1, h.evs h2]

variable {P : Program} {κ : List (Nat × Value)} {F : Frm} {H : List Assn}

/-- In every state with these slots, over this frame, the operation yields v and does nothing else. -/
def RO (P : Program) (κ : List (Nat × Value)) (F : Frm) (op : Op) (v : Value) : Prop :=
  ∀ n d a w dst ty pos after guard, Fr n κ d a → F.In w → (execOp a.eval ⟨dst, op, ty, pos, after, guard⟩).run P w = .ok (.value v) w
/-- Likewise, where it may look at what is owned. -/
def RD (P : Program) (κ : List (Nat × Value)) (H : List Assn) (F : Frm) (op : Op) (v : Value) : Prop :=
  ∀ n d a w dst ty pos after guard, Fr n κ d a → Sat H F w → (execOp a.eval ⟨dst, op, ty, pos, after, guard⟩).run P w = .ok (.value v) w
theorem RO.rd {op : Op} {v : Value} (h : RO P κ F op v) : RD P κ H F op v := fun n d a w dst ty pos after guard hf hs => h n d a w dst ty pos after guard hf hs.inn

theorem RO.move {x : Operand} {v : Value} (h : ev κ x = some v) : RO P κ F (.move x) v := by
  intro _ _ a w dst ty pos after guard hf hs; have e_h := hf.ev h; generalize a.eval = ρ at e_h ⊢; simp [execOp, e_h, pure]
theorem RO.assign {x : Operand} {v : Value} (h : ev κ x = some v) : RO P κ F (.assign x) v := by
  intro _ _ a w dst ty pos after guard hf hs; have e_h := hf.ev h; generalize a.eval = ρ at e_h ⊢; simp [execOp, e_h, pure]
theorem RO.pickT {c x y : Operand} {v : Value} (hc : ev κ c = some (.bool true)) (h : ev κ x = some v) : RO P κ F (.pick c x y) v := by
  intro _ _ a w dst ty pos after guard hf hs; have e_h := hf.ev h; have e_hc := hf.ev hc; generalize a.eval = ρ at e_h e_hc ⊢; simp [execOp, e_h, e_hc, asBool, go_sem]
theorem RO.pickF {c x y : Operand} {v : Value} (hc : ev κ c = some (.bool false)) (h : ev κ y = some v) : RO P κ F (.pick c x y) v := by
  intro _ _ a w dst ty pos after guard hf hs; have e_h := hf.ev h; have e_hc := hf.ev hc; generalize a.eval = ρ at e_h e_hc ⊢; simp [execOp, e_h, e_hc, asBool, go_sem]

theorem RO.add {k : IntKind} {x y : Operand} {t u : TypeId} {m n : Int} (hx : ev κ x = some (.int k m)) (hy : ev κ y = some (.int k n)) :
    RO P κ F (.binOp .add t x y u) (.int k (k.wrap (m + n))) := by
  intro _ _ a w dst ty pos after guard hf hs; have e_hx := hf.ev hx; have e_hy := hf.ev hy; generalize a.eval = ρ at e_hx e_hy ⊢; simp [execOp, e_hx, e_hy, binOp, eqGuard, Op.intArith, go_sem]
theorem RO.sub {k : IntKind} {x y : Operand} {t u : TypeId} {m n : Int} (hx : ev κ x = some (.int k m)) (hy : ev κ y = some (.int k n)) :
    RO P κ F (.binOp .sub t x y u) (.int k (k.wrap (m - n))) := by
  intro _ _ a w dst ty pos after guard hf hs; have e_hx := hf.ev hx; have e_hy := hf.ev hy; generalize a.eval = ρ at e_hx e_hy ⊢; simp [execOp, e_hx, e_hy, binOp, eqGuard, Op.intArith, go_sem]
theorem RO.mul {k : IntKind} {x y : Operand} {t u : TypeId} {m n : Int} (hx : ev κ x = some (.int k m)) (hy : ev κ y = some (.int k n)) :
    RO P κ F (.binOp .mul t x y u) (.int k (k.wrap (m * n))) := by
  intro _ _ a w dst ty pos after guard hf hs; have e_hx := hf.ev hx; have e_hy := hf.ev hy; generalize a.eval = ρ at e_hx e_hy ⊢; simp [execOp, e_hx, e_hy, binOp, eqGuard, Op.intArith, go_sem]
theorem wrap_i64 {z : Int} (h : -9223372036854775808 ≤ z ∧ z ≤ 9223372036854775807) : IntKind.i64.wrap z = z := by
  simp [IntKind.wrap, IntKind.bits, IntKind.signed]; omega
theorem RO.addI {x y : Operand} {t u : TypeId} {m n : Int} (hx : ev κ x = some (.int .i64 m)) (hy : ev κ y = some (.int .i64 n)) (hb : -9223372036854775808 ≤ m + n ∧ m + n ≤ 9223372036854775807) :
    RO P κ F (.binOp .add t x y u) (.int .i64 (m + n)) := by
  have := RO.add (P := P) (F := F) (t := t) (u := u) hx hy; rwa [wrap_i64 hb] at this
theorem RO.subI {x y : Operand} {t u : TypeId} {m n : Int} (hx : ev κ x = some (.int .i64 m)) (hy : ev κ y = some (.int .i64 n)) (hb : -9223372036854775808 ≤ m - n ∧ m - n ≤ 9223372036854775807) :
    RO P κ F (.binOp .sub t x y u) (.int .i64 (m - n)) := by
  have := RO.sub (P := P) (F := F) (t := t) (u := u) hx hy; rwa [wrap_i64 hb] at this
theorem RO.mulI {x y : Operand} {t u : TypeId} {m n : Int} (hx : ev κ x = some (.int .i64 m)) (hy : ev κ y = some (.int .i64 n)) (hb : -9223372036854775808 ≤ m * n ∧ m * n ≤ 9223372036854775807) :
    RO P κ F (.binOp .mul t x y u) (.int .i64 (m * n)) := by
  have := RO.mul (P := P) (F := F) (t := t) (u := u) hx hy; rwa [wrap_i64 hb] at this
theorem RO.quo {k : IntKind} {x y : Operand} {t u : TypeId} {m n : Int} (hx : ev κ x = some (.int k m)) (hy : ev κ y = some (.int k n)) (hn : n ≠ 0) :
    RO P κ F (.binOp .quo t x y u) (.int k (k.wrap (m.tdiv n))) := by
  intro _ _ a w dst ty pos after guard hf hs; have e_hx := hf.ev hx; have e_hy := hf.ev hy; generalize a.eval = ρ at e_hx e_hy ⊢; simp [execOp, e_hx, e_hy, binOp, eqGuard, Op.intDiv, hn, go_sem]
theorem RO.rem {k : IntKind} {x y : Operand} {t u : TypeId} {m n : Int} (hx : ev κ x = some (.int k m)) (hy : ev κ y = some (.int k n)) (hn : n ≠ 0) :
    RO P κ F (.binOp .rem t x y u) (.int k (m.tmod n)) := by
  intro _ _ a w dst ty pos after guard hf hs; have e_hx := hf.ev hx; have e_hy := hf.ev hy; generalize a.eval = ρ at e_hx e_hy ⊢; simp [execOp, e_hx, e_hy, binOp, eqGuard, Op.intDiv, hn, go_sem]
theorem RO.bitop {k : IntKind} {x y : Operand} {t u : TypeId} {m n : Int} {op : BinOp} (hop : op = .and ∨ op = .or ∨ op = .xor ∨ op = .andNot) (hx : ev κ x = some (.int k m)) (hy : ev κ y = some (.int k n)) :
    RO P κ F (.binOp op t x y u) (.int k (bits op k m n)) := by
  intro _ _ a w dst ty pos after guard hf hs; have e_hx := hf.ev hx; have e_hy := hf.ev hy; generalize a.eval = ρ at e_hx e_hy ⊢; rcases hop with rfl | rfl | rfl | rfl <;> simp [execOp, e_hx, e_hy, binOp, eqGuard, Op.intBits, bits, go_sem]
theorem RO.shl {k k' : IntKind} {x y : Operand} {t u : TypeId} {m n : Int} (hx : ev κ x = some (.int k m)) (hy : ev κ y = some (.int k' n)) (hn : 0 ≤ n) :
    RO P κ F (.binOp .shl t x y u) (.int k (k.wrap (m * 2 ^ (min n.toNat k.bits)))) := by
  have : ¬ n < 0 := by omega
  intro _ _ a w dst ty pos after guard hf hs; have e_hx := hf.ev hx; have e_hy := hf.ev hy; generalize a.eval = ρ at e_hx e_hy ⊢; simp [execOp, e_hx, e_hy, binOp, eqGuard, Op.shift, this, go_sem]
theorem RO.shr {k k' : IntKind} {x y : Operand} {t u : TypeId} {m n : Int} (hx : ev κ x = some (.int k m)) (hy : ev κ y = some (.int k' n)) (hn : 0 ≤ n) :
    RO P κ F (.binOp .shr t x y u) (.int k (m.fdiv (2 ^ (min n.toNat k.bits)))) := by
  have : ¬ n < 0 := by omega
  intro _ _ a w dst ty pos after guard hf hs; have e_hx := hf.ev hx; have e_hy := hf.ev hy; generalize a.eval = ρ at e_hx e_hy ⊢; simp [execOp, e_hx, e_hy, binOp, eqGuard, Op.shift, this, go_sem]
theorem RO.lss {k : IntKind} {x y : Operand} {t u : TypeId} {m n : Int} (hx : ev κ x = some (.int k m)) (hy : ev κ y = some (.int k n)) :
    RO P κ F (.binOp .lss t x y u) (.bool (decide (m < n))) := by
  intro _ _ a w dst ty pos after guard hf hs; have e_hx := hf.ev hx; have e_hy := hf.ev hy; generalize a.eval = ρ at e_hx e_hy ⊢; simp [execOp, e_hx, e_hy, binOp, eqGuard, Op.intCmp, go_sem]
theorem RO.leq {k : IntKind} {x y : Operand} {t u : TypeId} {m n : Int} (hx : ev κ x = some (.int k m)) (hy : ev κ y = some (.int k n)) :
    RO P κ F (.binOp .leq t x y u) (.bool (decide (m ≤ n))) := by
  intro _ _ a w dst ty pos after guard hf hs; have e_hx := hf.ev hx; have e_hy := hf.ev hy; generalize a.eval = ρ at e_hx e_hy ⊢; simp [execOp, e_hx, e_hy, binOp, eqGuard, Op.intCmp, go_sem]
theorem RO.gtr {k : IntKind} {x y : Operand} {t u : TypeId} {m n : Int} (hx : ev κ x = some (.int k m)) (hy : ev κ y = some (.int k n)) :
    RO P κ F (.binOp .gtr t x y u) (.bool (decide (n < m))) := by
  intro _ _ a w dst ty pos after guard hf hs; have e_hx := hf.ev hx; have e_hy := hf.ev hy; generalize a.eval = ρ at e_hx e_hy ⊢; simp [execOp, e_hx, e_hy, binOp, eqGuard, Op.intCmp, go_sem]
theorem RO.geq {k : IntKind} {x y : Operand} {t u : TypeId} {m n : Int} (hx : ev κ x = some (.int k m)) (hy : ev κ y = some (.int k n)) :
    RO P κ F (.binOp .geq t x y u) (.bool (decide (n ≤ m))) := by
  intro _ _ a w dst ty pos after guard hf hs; have e_hx := hf.ev hx; have e_hy := hf.ev hy; generalize a.eval = ρ at e_hx e_hy ⊢; simp [execOp, e_hx, e_hy, binOp, eqGuard, Op.intCmp, go_sem]
theorem RO.eql {k : IntKind} {x y : Operand} {t u : TypeId} {m n : Int} (hx : ev κ x = some (.int k m)) (hy : ev κ y = some (.int k n)) :
    RO P κ F (.binOp .eql t x y u) (.bool (decide (m = n))) := by
  intro _ _ a w dst ty pos after guard hf hs; have e_hx := hf.ev hx; have e_hy := hf.ev hy; generalize a.eval = ρ at e_hx e_hy ⊢; simp [execOp, e_hx, e_hy, binOp, eqGuard, Op.intCmp, go_sem]; rfl
theorem RO.neq {k : IntKind} {x y : Operand} {t u : TypeId} {m n : Int} (hx : ev κ x = some (.int k m)) (hy : ev κ y = some (.int k n)) :
    RO P κ F (.binOp .neq t x y u) (.bool (!decide (m = n))) := by
  intro _ _ a w dst ty pos after guard hf hs; have e_hx := hf.ev hx; have e_hy := hf.ev hy; generalize a.eval = ρ at e_hx e_hy ⊢; simp [execOp, e_hx, e_hy, binOp, eqGuard, Op.intCmp, go_sem]; rfl
theorem RO.not {x : Operand} {t : TypeId} {b : Bool} (hx : ev κ x = some (.bool b)) : RO P κ F (.unOp .not t x) (.bool !b) := by
  intro _ _ a w dst ty pos after guard hf hs; have e_hx := hf.ev hx; generalize a.eval = ρ at e_hx ⊢; simp [execOp, e_hx, Op.unary, go_sem]
theorem RO.neg {k : IntKind} {x : Operand} {t : TypeId} {m : Int} (hx : ev κ x = some (.int k m)) : RO P κ F (.unOp .neg t x) (.int k (k.wrap (0 - m))) := by
  intro _ _ a w dst ty pos after guard hf hs; have e_hx := hf.ev hx; generalize a.eval = ρ at e_hx ⊢; simp [execOp, e_hx, Op.unary, Op.intArith, go_sem]
theorem RO.makeFunc {fn : Fn} {first captured : Array Operand} {vs us : List Value} (h1 : evs κ first.toList = some vs) (h2 : evs κ captured.toList = some us) :
    RO P κ F (.makeFunc fn first captured) (.func fn vs.toArray us.toArray) := by
  intro _ _ a w dst ty pos after guard hf hs
  have e1 : first.map a.eval = vs.toArray := by apply Array.ext'; rw [← hf.evs h1, Array.toList_map]
  have e2 : captured.map a.eval = us.toArray := by apply Array.ext'; rw [← hf.evs h2, Array.toList_map]
  simp [execOp, Instr.makeFunc, e1, e2, go_sem]
theorem RO.extract {x : Operand} {i : Nat} {vs : Array Value} {v : Value} (hx : ev κ x = some (.tuple vs)) (hi : vs[i]? = some v) : RO P κ F (.extract x i) v := by
  intro _ _ a w dst ty pos after guard hf hs; have e_hx := hf.ev hx; generalize a.eval = ρ at e_hx ⊢; simp [execOp, e_hx, Instr.extract, hi, go_sem]
theorem RO.nilCheck {x : Operand} {p : Addr} (hx : ev κ x = some (.pointer (some p))) : RO P κ F (.nilCheck x) (.pointer (some p)) := by
  intro _ _ a w dst ty pos after guard hf hs; have e_hx := hf.ev hx; generalize a.eval = ρ at e_hx ⊢; simp [execOp, e_hx, go_sem]

end Go.Sl
/- The engine, part 3: memory, statements, calls. -/
namespace Go.Sl
open Go

def cl (l : List Value) (T : TypeId) : Obj := .cells l.toArray T (0, 0)
/-- the same, with what is frozen of it -/
abbrev clf (l : List Value) (T : TypeId) (fr : Nat × Nat) : Obj := .cells l.toArray T fr
/-- Nothing from lo on, before hi, is frozen. -/
def nfz (fr : Nat × Nat) (lo hi : Nat) : Prop := ∀ j, lo ≤ j → j < hi → ¬ (fr.1 ≤ j ∧ j < fr.2)
theorem nfz0 (lo hi : Nat) : nfz (0, 0) lo hi := fun _ _ _ h => by simp at h
theorem nfz.mono {fr : Nat × Nat} {lo hi lo' hi' : Nat} (h : nfz fr lo hi) (h1 : lo ≤ lo') (h2 : hi' ≤ hi) : nfz fr lo' hi' := fun j a b => h j (by omega) (by omega)

/-- n values from place k on. -/
def subl : List Value → Nat → Nat → Option (List Value)
  | [], 0, 0 => some []
  | _ :: _, 0, 0 => some []
  | v :: l, 0, n + 1 => match subl l 0 n with | some r => some (v :: r) | none => none
  | _ :: l, k + 1, n => subl l k n
  | [], _, _ => none
/-- vs stands from place k on. -/
def updl : List Value → Nat → List Value → Option (List Value)
  | l, 0, [] => some l
  | _ :: l, 0, u :: us => match updl l 0 us with | some r => some (u :: r) | none => none
  | v :: l, k + 1, us => match updl l k us with | some r => some (v :: r) | none => none
  | [], _, _ => none
def oneC : Value → Bool
  | .agg _ | .tuple _ => false
  | _ => true
def allOne : List Value → Bool
  | [] => true
  | v :: l => bif oneC v then allOne l else false

theorem subl_spec : ∀ {l : List Value} {k n : Nat} {r : List Value}, subl l k n = some r → r.length = n ∧ ∀ i, i < n → l[k + i]? = r[i]?
  | [], 0, 0, r, h => by simp [subl] at h; subst h; simp
  | _ :: _, 0, 0, r, h => by simp [subl] at h; subst h; simp
  | v :: l, 0, n + 1, r, h => by
    simp only [subl] at h
    cases hs : subl l 0 n with
    | none => simp [hs] at h
    | some r' =>
      simp [hs] at h; subst h
      obtain ⟨h1, h2⟩ := subl_spec hs
      refine ⟨by simp [h1], fun i hi => ?_⟩
      cases i with
      | zero => simp
      | succ i => have := h2 i (by omega); simp only [Nat.zero_add] at this ⊢; simpa using this
  | v :: l, k + 1, n, r, h => by
    simp only [subl] at h
    obtain ⟨h1, h2⟩ := subl_spec h
    refine ⟨h1, fun i hi => ?_⟩
    have := h2 i hi
    rw [show k + 1 + i = (k + i) + 1 from by omega]; simpa using this
  | [], k + 1, n, r, h => by simp [subl] at h
  | [], 0, n + 1, r, h => by simp [subl] at h

theorem updl_spec : ∀ {l : List Value} {k : Nat} {us r : List Value}, updl l k us = some r → r.length = l.length ∧ k + us.length ≤ l.length ∧
    (∀ i, i < us.length → r[k + i]? = us[i]?) ∧ (∀ i, i < k ∨ k + us.length ≤ i → r[i]? = l[i]?)
  | [], 0, [], r, h => by simp [updl] at h; subst h; simp
  | _ :: _, 0, [], r, h => by simp [updl] at h; subst h; simp
  | v :: l, 0, u :: us, r, h => by
    simp only [updl] at h
    cases hs : updl l 0 us with
    | none => simp [hs] at h
    | some r' =>
      simp [hs] at h; subst h
      obtain ⟨h1, h2, h3, h4⟩ := updl_spec hs
      refine ⟨by simp [h1], by simp at h2 ⊢; omega, fun i hi => ?_, fun i hi => ?_⟩
      · cases i with
        | zero => simp
        | succ i => have := h3 i (by simpa using hi); simp only [Nat.zero_add] at this ⊢; simpa using this
      · cases i with
        | zero => simp at hi
        | succ i => have := h4 i (by simp at hi ⊢; omega); simpa using this
  | v :: l, k + 1, us, r, h => by
    cases us with
    | nil =>
      simp only [updl] at h
      cases hs : updl l k [] with
      | none => simp [hs] at h
      | some r' =>
        simp [hs] at h; subst h
        obtain ⟨h1, h2, h3, h4⟩ := updl_spec hs
        refine ⟨by simp [h1], by simp at h2 ⊢; omega, by simp, fun i hi => ?_⟩
        cases i with
        | zero => simp
        | succ i => have := h4 i (by simp at hi ⊢; omega); simpa using this
    | cons u us =>
      simp only [updl] at h
      cases hs : updl l k (u :: us) with
      | none => simp [hs] at h
      | some r' =>
        simp [hs] at h; subst h
        obtain ⟨h1, h2, h3, h4⟩ := updl_spec hs
        refine ⟨by simp [h1], by simp at h2 ⊢; omega, fun i hi => ?_, fun i hi => ?_⟩
        · have := h3 i hi; rw [show k + 1 + i = (k + i) + 1 from by omega]; simpa using this
        · cases i with
          | zero => simp
          | succ i => have := h4 i (by simp at hi ⊢; omega); simpa using this
  | [], 0, _ :: _, r, h => by simp [updl] at h
  | [], _ + 1, us, r, h => by cases us <;> simp [updl] at h

theorem vc_spec {v : Value} {l : List Value} (h : vc v = some l) : v.cells.toList = l := by
  cases v <;> simp [vc, Value.cells] at h ⊢ <;> first | exact h | (rw [← h]) | skip

variable {P : Program} {κ : List (Nat × Value)} {F : Frm} {H : List Assn}

theorem run_underlying {T : TypeId} {d : TypeDesc} (h : P.underlying T = some d) (w : World) : (underlying T).run P w = .ok d w := by
  simp only [underlying, go_sem]
  simp [program, Sem.run, h, go_sem]
theorem run_typeInfo {T : TypeId} {i : TypeInfo} (h : P.info? T = some i) (w : World) : (typeInfo T).run P w = .ok i w := by
  simp only [typeInfo, go_sem]
  simp [program, Sem.run, h, go_sem]
theorem run_isAgg {T : TypeId} {g : Bool} {n : Nat} (h : lyt P T = some (g, n)) (w : World) : (isAgg T).run P w = .ok g w := by
  unfold lyt at h
  cases h1 : P.underlying T with
  | none => simp [h1] at h
  | some d =>
    cases h2 : P.info? T with
    | none => simp [h1, h2] at h
    | some i =>
      simp [h1, h2] at h
      obtain ⟨h3, h4⟩ := h
      subst h3
      simp only [isAgg]
      rw [Sem.run_bind, run_underlying h1]
      cases d <;> simp [Result.andThen, go_sem]
theorem run_sizeOf {T : TypeId} {g : Bool} {n : Nat} (h : lyt P T = some (g, n)) (w : World) : (sizeOf T).run P w = .ok n w := by
  unfold lyt at h
  cases h1 : P.underlying T with
  | none => simp [h1] at h
  | some d =>
    cases h2 : P.info? T with
    | none => simp [h1, h2] at h
    | some i =>
      simp [h1, h2] at h
      simp only [sizeOf]
      rw [Sem.run_bind, run_typeInfo h2]
      simp [Result.andThen, h.2, go_sem]

theorem cell_of {w : World} {b : Nat} {l : List Value} {T : TypeId} {fr : Nat × Nat} (h : w.heap[b]? = some (clf l T fr)) (k : Nat) : w.cell? ⟨b, k, none⟩ = l[k]? := by
  simp [World.cell?, h]
theorem Addr.add_none (b k i : Nat) : (⟨b, k, none⟩ : Addr).add i = ⟨b, k + i, none⟩ := by
  unfold Addr.add; split <;> simp_all

theorem run_loadCells {w : World} {b : Nat} {l : List Value} {T : TypeId} {fr : Nat × Nat} (h : w.heap[b]? = some (clf l T fr)) (k : Nat) :
    ∀ (n i : Nat) (acc : Array Value) (r : List Value), r.length = n → (∀ j, j < n → l[k + i + j]? = r[j]?) →
      (loadCellsFrom ⟨b, k, none⟩ i n acc).run P w = .ok (acc ++ r.toArray) w
  | 0, i, acc, r, hl, _ => by
    have : r = [] := List.eq_nil_of_length_eq_zero hl
    subst this; simp [loadCellsFrom, go_sem]
  | n + 1, i, acc, r, hlen, hj => by
    cases r with
    | nil => simp at hlen
    | cons v r =>
      have h0 := hj 0 (by omega)
      simp at h0
      have hl : (load (Addr.add ⟨b, k, none⟩ i)).run P w = .ok v w := by
        simp [load, Sem.run, Addr.add_none, cell_of h, h0]
      simp only [loadCellsFrom]
      rw [Sem.run_bind, hl]
      simp only [Result.andThen]
      have := run_loadCells h k n (i + 1) (acc.push v) r (by simpa using hlen) (fun j hj' => by have := hj (j + 1) (by omega); rw [show k + (i + 1) + j = k + i + (j + 1) from by omega]; simpa using this)
      rw [this]; simp

theorem loadVar_agg {T T' : TypeId} {b k n : Nat} {l r : List Value} {fr : Nat × Nat} {w : World} (hT : lyt P T = some (true, n)) (h : w.heap[b]? = some (clf l T' fr)) (hs : subl l k n = some r) :
    (loadVar T ⟨b, k, none⟩).run P w = .ok (.agg r.toArray) w := by
  obtain ⟨h1, h2⟩ := subl_spec hs
  have := run_loadCells (P := P) h k n 0 #[] r h1 (by simpa using h2)
  simp only [loadVar]
  rw [Sem.run_bind, run_isAgg hT]
  simp only [Result.andThen, if_true]
  rw [Sem.run_bind, run_sizeOf hT]
  simp only [Result.andThen, loadCells]
  rw [Sem.run_bind, this]
  simp
theorem loadVar_one {T T' : TypeId} {b k n : Nat} {l : List Value} {v : Value} {fr : Nat × Nat} {w : World} (hT : lyt P T = some (false, n)) (h : w.heap[b]? = some (clf l T' fr)) (hs : subl l k 1 = some [v]) :
    (loadVar T ⟨b, k, none⟩).run P w = .ok v w := by
  obtain ⟨h1, h2⟩ := subl_spec hs
  have := h2 0 (by omega)
  simp at this
  simp only [loadVar]
  rw [Sem.run_bind, run_isAgg hT]
  simp [Result.andThen, load, Sem.run, cell_of h, this]

theorem RD.load {T T' : TypeId} {x : Operand} {b k n : Nat} {l r : List Value} {R : List Assn} (hx : ev κ x = some (.pointer (some ⟨b, k, none⟩)))
    (hp : Pick H (pt b (cl l T')) R) (hT : lyt P T = some (true, n)) (hs : subl l k n = some r) : RD P κ H F (.load T x) (.agg r.toArray) := by
  intro _ _ a w dst ty pos after guard hf hs'
  have e := hf.ev hx
  have hh := (hs'.pick hp).pt_head
  have := loadVar_agg (P := P) hT hh hs
  simp only [execOp, Instr.loadAt, e, Instr.sureAddr]
  simp [this]
theorem RD.load1 {T T' : TypeId} {x : Operand} {b k n : Nat} {l : List Value} {v : Value} {R : List Assn} (hx : ev κ x = some (.pointer (some ⟨b, k, none⟩)))
    (hp : Pick H (pt b (cl l T')) R) (hT : lyt P T = some (false, n)) (hs : subl l k 1 = some [v]) : RD P κ H F (.load T x) v := by
  intro _ _ a w dst ty pos after guard hf hs'
  have e := hf.ev hx
  have hh := (hs'.pick hp).pt_head
  have := loadVar_one (P := P) hT hh hs
  simp only [execOp, Instr.loadAt, e, Instr.sureAddr]
  simp [this]
theorem RO.load {T T' : TypeId} {x : Operand} {b k n : Nat} {l r : List Value} (hx : ev κ x = some (.pointer (some ⟨b, k, none⟩)))
    (hp : F.has (pt b (cl l T'))) (hT : lyt P T = some (true, n)) (hs : subl l k n = some r) : RO P κ F (.load T x) (.agg r.toArray) := by
  intro _ _ a w dst ty pos after guard hf hs'
  have e := hf.ev hx
  have hh := Frm.has_pt hp hs'
  have := loadVar_agg (P := P) hT hh hs
  simp only [execOp, Instr.loadAt, e, Instr.sureAddr]
  simp [this]
theorem RO.load1 {T T' : TypeId} {x : Operand} {b k n : Nat} {l : List Value} {v : Value} (hx : ev κ x = some (.pointer (some ⟨b, k, none⟩)))
    (hp : F.has (pt b (cl l T'))) (hT : lyt P T = some (false, n)) (hs : subl l k 1 = some [v]) : RO P κ F (.load T x) v := by
  intro _ _ a w dst ty pos after guard hf hs'
  have e := hf.ev hx
  have hh := Frm.has_pt hp hs'
  have := loadVar_one (P := P) hT hh hs
  simp only [execOp, Instr.loadAt, e, Instr.sureAddr]
  simp [this]

end Go.Sl
/- The engine, part 4: lists of operations, stores, new memory, control, calls. -/
namespace Go.Sl
open Go

variable {P : Program} {n : Nat} {d : List Deferred} {F : Frm} {κ : List (Nat × Value)} {H : List Assn}

/-- From these slots and this memory on, the rest of a region's operations. -/
def G (P : Program) (ops : Array Oper) (Q : Exit → Act → World → Prop) (n : Nat) (d : List Deferred) (F : Frm) (rest : List Oper) (κ : List (Nat × Value)) (H : List Assn) : Prop :=
  ∀ a w, Fr n κ d a → Sat H F w → wpList P ops Q rest a w
/-- From these slots and this memory on, a piece of code. -/
def Tr (P : Program) (c : Code) (Q : Exit → Act → World → Prop) (n : Nat) (d : List Deferred) (F : Frm) (κ : List (Nat × Value)) (H : List Assn) : Prop :=
  ∀ a w, Fr n κ d a → Sat H F w → Code.wp P c Q a w
/-- The end is as asked. -/
def Post (Q : Exit → Act → World → Prop) (e : Exit) (n : Nat) (d : List Deferred) (F : Frm) (κ : List (Nat × Value)) (H : List Assn) : Prop :=
  ∀ a w, Fr n κ d a → Sat H F w → Q e a w

/-- X can be picked out of H; the rest is let go. -/
inductive Take {α : Type _} : List α → List α → Prop
  | o {X : List α} : Take X []
  | p {A : α} {H1 H2 X : List α} : Pick H1 A H2 → Take H2 X → Take H1 (A :: X)

/-! ### Control -/
section control
variable {Q Q' : Exit → Act → World → Prop} {K : Act → World → Prop} {x y c : Code} {id id' : Nat}

theorem Tr.seq (h : Tr P x (Exit.then (fun a w => y.wp P Q a w) Q) n d F κ H) : Tr P (.seq x y) Q n d F κ H :=
  fun a w hf hs => wp_seq (h a w hf hs)
theorem Tr.block (h : Tr P c (Exit.inBlock id Q) n d F κ H) : Tr P (.block id c) Q n d F κ H := fun a w hf hs => wp_block (h a w hf hs)
theorem Tr.skip (h : Post Q .normal n d F κ H) : Tr P .skip Q n d F κ H := fun a w hf hs => wp_skip (h a w hf hs)
theorem Tr.ret (h : Post Q .ret n d F κ H) : Tr P .ret Q n d F κ H := fun a w hf hs => wp_ret (h a w hf hs)
theorem Tr.exit (h : Post Q (.exit id) n d F κ H) : Tr P (.exit id) Q n d F κ H := fun a w hf hs => wp_exit (h a w hf hs)
theorem Tr.condT {o : Operand} (hc : ev κ o = some (.bool true)) (h : Tr P x Q n d F κ H) : Tr P (.cond o x y) Q n d F κ H :=
  fun a w hf hs => wp_cond_true (hf.ev hc) (h a w hf hs)
theorem Tr.condF {o : Operand} (hc : ev κ o = some (.bool false)) (h : Tr P y Q n d F κ H) : Tr P (.cond o x y) Q n d F κ H :=
  fun a w hf hs => wp_cond_false (hf.ev hc) (h a w hf hs)
theorem Tr.cond {o : Operand} {b : Bool} (hc : ev κ o = some (.bool b)) (ht : b = true → Tr P x Q n d F κ H) (hf' : b = false → Tr P y Q n d F κ H) : Tr P (.cond o x y) Q n d F κ H :=
  fun a w hf hs => wp_cond_split (hf.ev hc) (fun e => ht e a w hf hs) (fun e => hf' e a w hf hs)

theorem Post.thenN (h : Tr P y Q n d F κ H) : Post (Exit.then (fun a w => y.wp P Q a w) Q') .normal n d F κ H := h
theorem Post.thenE (h : Post Q (.exit id) n d F κ H) : Post (Exit.then K Q) (.exit id) n d F κ H := h
theorem Post.thenR (h : Post Q .ret n d F κ H) : Post (Exit.then K Q) .ret n d F κ H := h
theorem Post.blockN (h : Post Q .normal n d F κ H) : Post (Exit.inBlock id Q) .normal n d F κ H := h
theorem Post.blockR (h : Post Q .ret n d F κ H) : Post (Exit.inBlock id Q) .ret n d F κ H := h
theorem Post.blockE (h : Post Q .normal n d F κ H) : Post (Exit.inBlock id Q) (.exit id) n d F κ H := fun a w hf hs => by
  show (if id = id then Q .normal a w else _); rw [if_pos rfl]; exact h a w hf hs
theorem Post.blockX (hne : Nat.beq id' id = false) (h : Post Q (.exit id') n d F κ H) : Post (Exit.inBlock id Q) (.exit id') n d F κ H := fun a w hf hs => by
  show (if id' = id then Q .normal a w else _); rw [if_neg (Nat.ne_of_beq_eq_false hne)]; exact h a w hf hs

theorem Tr.region {l : List Oper} (h : G P l.toArray Q n d F l κ H) : Tr P (.region id l.toArray false) Q n d F κ H :=
  fun a w hf hs => wp_region_lit (h a w hf hs)
theorem G.nil {ops : Array Oper} (h : Post Q .normal n d F κ H) : G P ops Q n d F [] κ H := fun a w hf hs => wpList_nil (h a w hf hs)

/-! weakening -/
theorem Tr.mem {H' : List Assn} (k : ∀ {F w}, Sat H F w → Sat H' F w) (h : Tr P c Q n d F κ H') : Tr P c Q n d F κ H := fun a w hf hs => h a w hf (k hs)
theorem G.mem {ops : Array Oper} {rest : List Oper} {H' : List Assn} (k : ∀ {F w}, Sat H F w → Sat H' F w) (h : G P ops Q n d F rest κ H') : G P ops Q n d F rest κ H := fun a w hf hs => h a w hf (k hs)
theorem Tr.app {X Y Z : List Assn} (p : App X Y Z) (h : Tr P c Q n d F κ Z) : Tr P c Q n d F κ (X ++ Y) := p.eq ▸ h
theorem G.app {ops : Array Oper} {rest : List Oper} {X Y Z : List Assn} (p : App X Y Z) (h : G P ops Q n d F rest κ Z) : G P ops Q n d F rest κ (X ++ Y) := p.eq ▸ h

/-! loops -/
/-- All that the one list knows, the other one knows. -/
def lks (κ : List (Nat × Value)) : List (Nat × Value) → Prop
  | [] => True
  | (s, v) :: r => lk κ s = some v ∧ lks κ r
theorem lks.all : ∀ {I : List (Nat × Value)}, lks κ I → ∀ s v, lk I s = some v → lk κ s = some v
  | (t, u) :: r, h, s, v, hs => by
    simp only [lk] at hs
    cases hb : Nat.beq t s with
    | true =>
      have e := Nat.eq_of_beq_eq_true hb
      subst e
      simp at hs; subst hs; exact h.1
    | false => simp [hb] at hs; exact lks.all h.2 s v hs
theorem Sat.take {H X : List Assn} (t : Take H X) : ∀ {F : Frm} {w : World}, Sat H F w → Sat X F w := by
  induction t with
  | @o H =>
    intro F w h
    induction H generalizing F with
    | nil => exact h
    | cons A H ih => exact ih h.drop
  | p hp _ ih => exact fun h => (h.pick hp).under fun _ => ih

theorem lk_append : ∀ (X Y : List (Nat × Value)) (s : Nat) (v : Value), lk (X ++ Y) s = some v → lk X s = some v ∨ (lk X s = none ∧ lk Y s = some v)
  | [], Y, s, v, h => .inr ⟨rfl, h⟩
  | (t, u) :: X, Y, s, v, h => by
    simp only [List.cons_append, lk] at h ⊢
    cases hb : Nat.beq t s with
    | true => left; simpa [hb] using h
    | false => simp only [hb, cond_false] at h ⊢; exact lk_append X Y s v h

/-- A round's end: the ghost goes on. -/
def AgainQ {α : Type} (I : α → List (Nat × Value)) (κc : List (Nat × Value)) (HI : α → List Assn) (Hc : List Assn) (φ : α → Prop) (μ : α → Nat) (x : α) (n : Nat) (d : List Deferred) (F : Frm) : Act → World → Prop :=
  fun a w => ∃ y, φ y ∧ μ y < μ x ∧ Fr n (I y ++ κc) d a ∧ Sat (HI y ++ Hc) F w

theorem Tr.loop {α : Type} (I : α → List (Nat × Value)) (κc : List (Nat × Value)) (HI : α → List Assn) (Hc : List Assn) (φ : α → Prop) (μ : α → Nat) (x0 : α) (h0 : φ x0)
    (hκ : lks κ (I x0)) (hc : lks κ κc) (hH : Take H (HI x0 ++ Hc))
    (round : ∀ x, φ x → Tr P c (Exit.then (AgainQ I κc HI Hc φ μ x n d F) Q) n d F (I x ++ κc) (HI x ++ Hc)) : Tr P (.loop c) Q n d F κ H := by
  intro a w hf hs b k cs
  have key : ∀ m, ∀ x, μ x = m → φ x → ∀ a w, Fr n (I x ++ κc) d a → Sat (HI x ++ Hc) F w →
      ∃ e a' w', Q e a' w' ∧ Arrives P (lone (b.at a (.code c :: .inLoop c :: k)) cs w) b k cs e a' w' := by
    intro m
    induction m using Nat.strongRecOn with
    | _ m ih =>
      intro x hx hφ a w hf hs
      obtain ⟨e, a₁, w₁, hq, harr⟩ := round x hφ a w hf hs b (.inLoop c :: k) cs
      cases e with
      | normal =>
        obtain ⟨y, hy, hlt, hf1, hs1⟩ := hq
        obtain ⟨e₂, a₂, w₂, hq₂, harr₂⟩ := ih (μ y) (hx ▸ hlt) y rfl hy a₁ w₁ hf1 hs1
        exact ⟨e₂, a₂, w₂, hq₂, .of_steps (Steps.trans harr (.one step_inLoop)) harr₂⟩
      | exit id => exact ⟨_, a₁, w₁, hq, .pass (x := .inLoop c) rfl (fun _ _ => .inl (by simp)) harr⟩
      | goto l => exact ⟨_, a₁, w₁, hq, .pass (x := .inLoop c) rfl (fun _ _ => .inl (by simp)) harr⟩
      | ret => exact ⟨_, a₁, w₁, hq, .pass (x := .inLoop c) rfl (fun _ _ => .inl (by simp)) harr⟩
      | panic ch => exact ⟨_, a₁, w₁, hq, .pass (x := .inLoop c) rfl (fun _ _ => .inl (by simp)) harr⟩
      | outgrown => exact ⟨_, a₁, w₁, hq, .pass (x := .inLoop c) rfl (fun _ _ => .inl (by simp)) harr⟩
  obtain ⟨e, a', w', hq, harr⟩ := key _ x0 rfl h0 a w (hf.less fun s v h => by
    rcases lk_append _ _ s v h with h1 | ⟨_, h1⟩
    · exact hκ.all s v h1
    · exact hc.all s v h1) (hs.take hH)
  exact ⟨e, a', w', hq, .of_steps (.one step_loop) harr⟩

/-- A round's end. -/
theorem Post.again {Q : Exit → Act → World → Prop} {α : Type} {I : α → List (Nat × Value)} {κc : List (Nat × Value)} {HI : α → List Assn} {Hc : List Assn} {φ : α → Prop} {m : α → Nat} {x : α} (y : α)
    (h0 : φ y) (hm : m y < m x) (hκ : lks κ (I y)) (hc : lks κ κc) (hH : Take H (HI y ++ Hc)) :
    Post (Exit.then (AgainQ I κc HI Hc φ m x n d F) Q) .normal n d F κ H :=
  fun _ _ hf hs => ⟨y, h0, hm, hf.less (fun s v h => by
    rcases lk_append _ _ s v h with h1 | ⟨_, h1⟩
    · exact hκ.all s v h1
    · exact hc.all s v h1), hs.take hH⟩

/-- A slot's value, told otherwise. -/
theorem Fr.as {a : Act} {s : Nat} {v u : Value} (h : Fr n κ d a) (hl : lk κ s = some v) (e : v = u) : Fr n ((s, u) :: κ) d a :=
  h.less fun t x ht => by
    simp only [lk] at ht
    cases hb : Nat.beq s t with
    | true => have e1 := Nat.eq_of_beq_eq_true hb; subst e1; simp only [hb, cond_true, Option.some.injEq] at ht; rw [hl, e, ht]
    | false => simpa [hb] using ht
theorem Post.as {e' : Exit} (s : Nat) {v : Value} (u : Value) (hl : lk κ s = some v) (e : v = u) (h : Post Q e' n d F ((s, u) :: κ) H) : Post Q e' n d F κ H := fun a w hf hs => h a w (hf.as hl e) hs
theorem Tr.as (s : Nat) {v : Value} (u : Value) (hl : lk κ s = some v) (e : v = u) (h : Tr P c Q n d F ((s, u) :: κ) H) : Tr P c Q n d F κ H := fun a w hf hs => h a w (hf.as hl e) hs
theorem G.as {ops : Array Oper} {rest : List Oper} (s : Nat) {v : Value} (u : Value) (hl : lk κ s = some v) (e : v = u) (h : G P ops Q n d F rest ((s, u) :: κ) H) : G P ops Q n d F rest κ H := fun a w hf hs => h a w (hf.as hl e) hs
theorem Post.mem {e : Exit} {H' : List Assn} (k : ∀ {F w}, Sat H F w → Sat H' F w) (h : Post Q e n d F κ H') : Post Q e n d F κ H := fun a w hf hs => h a w hf (k hs)
end control
end Go.Sl
/- The engine, part 5: operations in their region; functions. -/
namespace Go.Sl
open Go

variable {P : Program} {n : Nat} {d : List Deferred} {F : Frm} {κ : List (Nat × Value)} {H : List Assn}
variable {ops : Array Oper} {Q : Exit → Act → World → Prop} {rest : List Oper}

theorem wpList_op {o : Oper} {a : Act} {w : World} (hg : Region.wanted o (yielded ops a.tmps) = true) (h : o.wp P a w (wpList P ops Q rest) Q) : wpList P ops Q (o :: rest) a w := by
  unfold wpList; rw [if_pos hg]; exact .inl h
theorem wanted_none {op : Op} {dst : Option Tmp} {ty : TypeId} {pos : String} {after : Array Edge} (y : Nat → Option Bool) : Region.wanted ⟨dst, op, ty, pos, after, none⟩ y = true := rfl

theorem G.ro {op : Op} {s : Nat} {ty : TypeId} {pos : String} {after : Array Edge} {v : Value} (h : RD P κ H F op v) (hs : Nat.blt s n = true) (k : G P ops Q n d F rest ((s, v) :: κ) H) :
    G P ops Q n d F (⟨some s, op, ty, pos, after, none⟩ :: rest) κ H := fun a w hf hsat => by
  refine wpList_op (wanted_none _) ?_
  unfold Oper.wp
  rw [h n d a w _ _ _ _ _ hf hsat, Oper.upon_value]
  exact k _ w (hf.put hs) hsat
theorem G.ro0 {op : Op} {ty : TypeId} {pos : String} {after : Array Edge} {v : Value} (h : RD P κ H F op v) (k : G P ops Q n d F rest κ H) :
    G P ops Q n d F (⟨none, op, ty, pos, after, none⟩ :: rest) κ H := fun a w hf hsat => by
  refine wpList_op (wanted_none _) ?_
  unfold Oper.wp
  rw [h n d a w _ _ _ _ _ hf hsat, Oper.upon_value]
  exact k _ w hf hsat

/-- What a guard says, by what the slots hold. -/
def guardK (ops : Array Oper) (κ : List (Nat × Value)) (g : Nat × Bool) : Option Bool :=
  match (ops[g.1]?).bind (·.dst) with
  | some t => match lk κ t with
    | some (.bool c) => some (c == g.2)
    | some (.tuple _) => some false
    | _ => none
  | none => none
theorem guardK_spec {g : Nat × Bool} {a : Act} {b : Bool} (hf : Fr n κ d a) (h : guardK ops κ g = some b) {op : Op} {dst : Option Tmp} {ty : TypeId} {pos : String} {after : Array Edge} :
    Region.wanted ⟨dst, op, ty, pos, after, some g⟩ (yielded ops a.tmps) = b := by
  obtain ⟨j, want⟩ := g
  simp only [Region.wanted, yielded]
  unfold guardK at h
  simp only at h
  cases h1 : (ops[j]?).bind (·.dst) with
  | none => simp [h1] at h
  | some t =>
    simp only [h1, Option.bind_some] at h ⊢
    cases h2 : lk κ t with
    | none => simp [h2] at h
    | some v =>
      rw [hf.get t v h2]
      rw [h2] at h
      cases v <;> simp at h ⊢ <;> exact h

theorem G.un {op : Op} {dst : Option Tmp} {g : Nat × Bool} {ty : TypeId} {pos : String} {after : Array Edge} (hg : guardK ops κ g = some true) (k : G P ops Q n d F (⟨dst, op, ty, pos, after, none⟩ :: rest) κ H) :
    G P ops Q n d F (⟨dst, op, ty, pos, after, some g⟩ :: rest) κ H := fun a w hf hsat => by
  have h := k a w hf hsat
  unfold wpList at h ⊢
  rw [if_pos (wanted_none _)] at h
  rw [if_pos (guardK_spec hf hg)]
  exact h
theorem G.pass {op : Op} {s : Nat} {g : Nat × Bool} {ty : TypeId} {pos : String} {after : Array Edge} (hg : guardK ops κ g = some false) (hs : Nat.blt s n = true) (k : G P ops Q n d F rest ((s, undef) :: κ) H) :
    G P ops Q n d F (⟨some s, op, ty, pos, after, some g⟩ :: rest) κ H := fun a w hf hsat => by
  unfold wpList
  rw [if_neg (by rw [guardK_spec hf hg]; simp)]
  exact k _ w (hf.put hs) hsat
theorem G.pass0 {op : Op} {g : Nat × Bool} {ty : TypeId} {pos : String} {after : Array Edge} (hg : guardK ops κ g = some false) (k : G P ops Q n d F rest κ H) :
    G P ops Q n d F (⟨none, op, ty, pos, after, some g⟩ :: rest) κ H := fun a w hf hsat => by
  unfold wpList
  rw [if_neg (by rw [guardK_spec hf hg]; simp)]
  exact k _ w hf hsat

/-- A Bool is parted. -/
theorem G.split {s : Nat} {p : Prop} [Decidable p] (hl : lk κ s = some (.bool (decide p))) (ht : p → G P ops Q n d F rest ((s, .bool true) :: κ) H) (hf : ¬ p → G P ops Q n d F rest ((s, .bool false) :: κ) H) :
    G P ops Q n d F rest κ H := fun a w hfr hsat => by
  by_cases hp : p
  · refine ht hp a w ⟨hfr.size, fun t u hu => ?_, hfr.defers⟩ hsat
    simp only [lk] at hu
    cases hb : Nat.beq s t with
    | true => have e := Nat.eq_of_beq_eq_true hb; subst e; simp at hu; subst hu; have := hfr.get _ _ hl; simpa [hp] using this
    | false => simp [hb] at hu; exact hfr.get _ _ hu
  · refine hf hp a w ⟨hfr.size, fun t u hu => ?_, hfr.defers⟩ hsat
    simp only [lk] at hu
    cases hb : Nat.beq s t with
    | true => have e := Nat.eq_of_beq_eq_true hb; subst e; simp at hu; subst hu; have := hfr.get _ _ hl; simpa [hp] using this
    | false => simp [hb] at hu; exact hfr.get _ _ hu

/-! ### Operations that act: each comes to a value, slots apart, and new memory. -/
def Acts (P : Program) (κ : List (Nat × Value)) (H : List Assn) (F : Frm) (op : Op) (R : Option Value → List Assn → Prop) : Prop :=
  ∀ n d a w dst ty pos after guard, Fr n κ d a → Sat H F w → ∃ x v w' H', R x H' ∧ Sat H' F w' ∧ (x = none ∨ x = some v) ∧
    ((execOp a.eval ⟨dst, op, ty, pos, after, guard⟩).run P w = .ok (.value v) w' ∨ (x = none ∧ v = undef ∧ (execOp a.eval ⟨dst, op, ty, pos, after, guard⟩).run P w = .ok .skip w'))

theorem G.acts {op : Op} {s : Nat} {ty : TypeId} {pos : String} {after : Array Edge} {R : Option Value → List Assn → Prop} (h : Acts P κ H F op R) (hs : Nat.blt s n = true)
    (k : ∀ v H', R (some v) H' → G P ops Q n d F rest ((s, v) :: κ) H') (k0 : ∀ H', ¬ R none H') :
    G P ops Q n d F (⟨some s, op, ty, pos, after, none⟩ :: rest) κ H := fun a w hf hsat => by
  refine wpList_op (wanted_none _) ?_
  unfold Oper.wp
  obtain ⟨x, v, w', H', hR, hsat', hx, hrun⟩ := h n d a w _ _ _ _ _ hf hsat
  rcases hx with rfl | rfl
  · exact absurd hR (k0 H')
  rcases hrun with hrun | ⟨h0, _⟩
  · rw [hrun, Oper.upon_value]; exact k v H' hR _ w' (hf.put hs) hsat'
  · cases h0
theorem G.acts0 {op : Op} {ty : TypeId} {pos : String} {after : Array Edge} {R : Option Value → List Assn → Prop} (h : Acts P κ H F op R)
    (k : ∀ x H', R x H' → G P ops Q n d F rest κ H') :
    G P ops Q n d F (⟨none, op, ty, pos, after, none⟩ :: rest) κ H := fun a w hf hsat => by
  refine wpList_op (wanted_none _) ?_
  unfold Oper.wp
  obtain ⟨x, v, w', H', hR, hsat', hx, hrun⟩ := h n d a w _ _ _ _ _ hf hsat
  rcases hrun with hrun | ⟨_, _, hrun⟩
  · rw [hrun, Oper.upon_value]; exact k x H' hR _ w' hf hsat'
  · rw [hrun, Oper.upon_skip]; exact k x H' hR _ w' hf hsat'

/-! stores -/
theorem run_storeCells {b k : Nat} {T : TypeId} {fr : Nat × Nat} : ∀ (us : List Value) (i : Nat) (l r : List Value) (w : World), allOne us = true → w.heap[b]? = some (clf l T fr) → updl l (k + i) us = some r → nfz fr (k + i) (k + i + us.length) →
    ∃ w', (storeCells ⟨b, k, none⟩ us i).run P w = .ok () w' ∧ w'.heap[b]? = some (clf r T fr) ∧ (∀ c, c ≠ b → w'.heap[c]? = w.heap[c]?) ∧ w'.os = w.os ∧ w'.tape = w.tape ∧ w'.output = w.output
  | [], i, l, r, w, _, hh, hu, _ => by
    have hr : r = l := by
      obtain ⟨h1, h2, h3, h4⟩ := updl_spec hu
      apply List.ext_getElem? ; intro j
      exact h4 j (by simp; omega)
    subst hr
    exact ⟨w, by simp [storeCells], hh, fun _ _ => rfl, rfl, rfl, rfl⟩
  | u :: us, i, l, r, w, ho, hh, hu, hz => by
    obtain ⟨h1, h2, h3, h4⟩ := updl_spec hu
    simp only [allOne] at ho
    cases hu1 : oneC u with
    | false => simp [hu1] at ho
    | true =>
      simp [hu1] at ho
      simp only [List.length_cons] at h2 h3 h4
      have hlt : k + i < l.length := by omega
      have hc : w.cell? ⟨b, k + i, none⟩ = some l[k + i] := by rw [cell_of hh]; exact List.getElem?_eq_getElem hlt
      have hfz : w.frozen? ⟨b, k + i, none⟩ = false := by
        have h0 := hz (k + i) (Nat.le_refl _) (by simp)
        simp [World.frozen?, hh]; omega
      have hst : (store (Addr.add ⟨b, k, none⟩ i) u).run P w = .ok () (w.setCell ⟨b, k + i, none⟩ u) := by
        rw [Addr.add_none]
        cases u <;> simp [oneC] at hu1 <;> simp [store, Sem.run, hc, hfz]
      have hset : (w.setCell ⟨b, k + i, none⟩ u).heap[b]? = some (clf (l.set (k + i) u) T fr) := by
        simp only [World.setCell, Array.getElem?_modify, if_true, hh, Option.map_some]
        simp
      have hoth : ∀ c, c ≠ b → (w.setCell ⟨b, k + i, none⟩ u).heap[c]? = w.heap[c]? := fun c hc => by
        simp only [World.setCell, Array.getElem?_modify]; rw [if_neg (fun e => hc e.symm)]
      have hup : updl (l.set (k + i) u) (k + (i + 1)) us = some r := by
        have : ∀ (l : List Value) (j : Nat) (us r : List Value), r.length = l.length → j + us.length ≤ l.length → (∀ i, i < us.length → r[j + i]? = us[i]?) → (∀ i, i < j ∨ j + us.length ≤ i → r[i]? = l[i]?) → updl l j us = some r := by
          intro l
          induction l with
          | nil =>
            intro j us r h1 h2 h3 h4
            simp at h1 h2
            obtain ⟨rfl, h2⟩ := h2
            cases us with
            | nil => simp [updl, h1]
            | cons => simp at h2
          | cons x l ih =>
            intro j us r h1 h2 h3 h4
            cases r with
            | nil => simp at h1
            | cons y r =>
              cases j with
              | zero =>
                cases us with
                | nil =>
                  have : y :: r = x :: l := by apply List.ext_getElem?; intro i; exact h4 i (by simp)
                  simp [updl, this]
                | cons u us =>
                  have h0 := h3 0 (by simp)
                  simp at h0
                  subst h0
                  have := ih 0 us r (by simpa using h1) (by simp at h2 ⊢; omega) (fun i hi => by have := h3 (i + 1) (by simpa using hi); simpa using this) (fun i hi => by have := h4 (i + 1) (by simp at hi ⊢; omega); simpa using this)
                  simp [updl, this]
              | succ j =>
                have h0 := h4 0 (by omega)
                simp at h0
                subst h0
                have := ih j us r (by simpa using h1) (by simp at h2; omega) (fun i hi => by have := h3 i hi; rw [show j + 1 + i = (j + i) + 1 from by omega] at this; simpa using this) (fun i hi => by have := h4 (i + 1) (by omega); simpa using this)
                cases us <;> simp [updl, this]
        refine this _ _ _ _ (by simp [h1]) (by simp; omega) (fun j hj => ?_) (fun j hj => ?_)
        · have := h3 (j + 1) (by omega)
          rw [show k + i + (j + 1) = k + (i + 1) + j from by omega] at this; simpa using this
        · by_cases hji : j = k + i
          · subst hji
            have := h3 0 (by omega)
            simp at this
            rw [this]; simp [hlt]
          · rw [List.getElem?_set_ne (fun e => hji e.symm)]
            exact h4 j (by omega)
      obtain ⟨w', hr, hb, ho', e1, e2, e3⟩ := run_storeCells us (i + 1) (l.set (k + i) u) r (w.setCell ⟨b, k + i, none⟩ u) ho hset hup (hz.mono (by omega) (by simp only [List.length_cons]; omega))
      refine ⟨w', ?_, hb, fun c hc => (ho' c hc).trans (hoth c hc), e1, e2, e3⟩
      simp only [storeCells]
      rw [Sem.run_bind, hst]
      exact hr

theorem Acts.store {T T' : TypeId} {x y : Operand} {b k m : Nat} {g : Bool} {v : Value} {l l' us : List Value} {H' : List Assn} (hx : ev κ x = some (.pointer (some ⟨b, k, none⟩))) (hy : ev κ y = some v)
    (hv : vc v = some us) (ho : allOne us = true) (hT : lyt P T = some (g, m)) (hm : us.length = m) (hu : Upd H (pt b (cl l T')) (pt b (cl l' T')) H') (hl : updl l k us = some l') :
    Acts P κ H F (.store T x y) (fun x K => x = none ∧ K = H') := by
  intro n d a w dst ty pos after guard hf hs
  obtain ⟨R, p1, p2⟩ := hu.picks
  have h0 := hs.pick p1
  obtain ⟨w', hr, hb, ho', e1, e2, e3⟩ := run_storeCells (P := P) (fr := (0, 0)) us 0 l l' w ho h0.pt_head (by simpa using hl) (nfz0 _ _)
  refine ⟨none, undef, w', H', ⟨rfl, rfl⟩, (h0.put hb ho' e1 e2 e3).unpick p2, .inl rfl, .inr ⟨rfl, rfl, ?_⟩⟩
  have ex := hf.ev hx; have ey := hf.ev hy
  generalize a.eval = ρ at ex ey ⊢
  have hc := vc_spec hv
  simp only [execOp, Instr.storeAt, ex, ey, Instr.sureAddr]
  have hsz : v.cells.size = m := by rw [← Array.length_toList, hc, hm]
  have hsv : (storeVar T ⟨b, k, none⟩ v).run P w = .ok () w' := by
    simp only [storeVar]
    rw [Sem.run_bind, run_sizeOf hT]
    simp [Result.andThen, hsz, hc, hr]
  simp [hsv, Result.andThen]

theorem G.store {T T' : TypeId} {x y : Operand} {b k m : Nat} {g : Bool} {v : Value} {l l' us : List Value} {H' : List Assn} {ty : TypeId} {pos : String} {after : Array Edge} (hx : ev κ x = some (.pointer (some ⟨b, k, none⟩))) (hy : ev κ y = some v)
    (hv : vc v = some us) (ho : allOne us = true) (hT : lyt P T = some (g, m)) (hm : us.length = m) (hu : Upd H (pt b (cl l T')) (pt b (cl l' T')) H') (hl : updl l k us = some l')
    (kk : G P ops Q n d F rest κ H') : G P ops Q n d F (⟨none, .store T x y, ty, pos, after, none⟩ :: rest) κ H :=
  G.acts0 (Acts.store hx hy hv ho hT hm hu hl) (fun _ _ h => h.2 ▸ kk)

/-! new memory -/
theorem run_new {T : TypeId} {l : List Value} {w : World} (hs : Sat H F w) {v : Value} (hv : v.cells.toList = l) :
    ∃ b w', (newVar T v).run P w = .ok ⟨b, 0, none⟩ w' ∧ Sat (pt b (cl l T) :: H) F w' := by
  refine ⟨w.heap.size, _, ?_, hs.alloc (cl l T)⟩
  have : v.cells = l.toArray := by rw [← hv]
  simp [newVar, newRow, newObj, Sem.run, cl, this]

theorem Acts.alloc {T : TypeId} {l : List Value} (hz : zv P T = some l) :
    Acts P κ H F (.alloc T) (fun x K => ∃ b, x = some (.pointer (some ⟨b, 0, none⟩)) ∧ K = pt b (cl l T) :: H) := by
  intro n d a w dst ty pos after guard hf hs
  unfold zv at hz
  cases hi : P.info? T with
  | none => simp [hi] at hz
  | some i =>
    simp only [hi] at hz
    cases hz0 : i.zero with
    | none => simp [hz0] at hz
    | some z =>
      simp only [hz0] at hz
      obtain ⟨b, w', hr, hsat⟩ := run_new (P := P) (T := T) hs (vc_spec hz)
      refine ⟨_, _, w', _, ⟨b, rfl, rfl⟩, hsat, .inr rfl, .inl ?_⟩
      simp only [execOp, Instr.alloc]
      have hzv : (zeroValue T).run P w = .ok z w := by
        simp only [zeroValue]
        rw [Sem.run_bind, run_typeInfo hi]
        simp [Result.andThen, hz0]
      simp [hzv, Result.andThen, hr]
theorem G.alloc {T : TypeId} {s : Nat} {l : List Value} {ty : TypeId} {pos : String} {after : Array Edge} (hz : zv P T = some l) (hs : Nat.blt s n = true)
    (k : ∀ b, G P ops Q n d F rest ((s, .pointer (some ⟨b, 0, none⟩)) :: κ) (pt b (cl l T) :: H)) : G P ops Q n d F (⟨some s, .alloc T, ty, pos, after, none⟩ :: rest) κ H :=
  G.acts (Acts.alloc hz) hs (fun v H' ⟨b, h1, h2⟩ => by cases h1; subst h2; exact k b) (fun _ ⟨_, h, _⟩ => by cases h)

theorem Acts.box {T : TypeId} {x : Operand} {v : Value} {l : List Value} (hx : ev κ x = some v) (hv : vc v = some l) :
    Acts P κ H F (.box T x) (fun x K => ∃ b, x = some (.pointer (some ⟨b, 0, none⟩)) ∧ K = pt b (cl l T) :: H) := by
  intro n d a w dst ty pos after guard hf hs
  obtain ⟨b, w', hr, hsat⟩ := run_new (P := P) (T := T) hs (vc_spec hv)
  refine ⟨_, _, w', _, ⟨b, rfl, rfl⟩, hsat, .inr rfl, .inl ?_⟩
  have ex := hf.ev hx
  generalize a.eval = ρ at ex ⊢
  simp [execOp, Instr.box, ex, hr, Result.andThen]
theorem G.box {T : TypeId} {x : Operand} {v : Value} {l : List Value} {s : Nat} {ty : TypeId} {pos : String} {after : Array Edge} (hx : ev κ x = some v) (hv : vc v = some l) (hs : Nat.blt s n = true)
    (k : ∀ b, G P ops Q n d F rest ((s, .pointer (some ⟨b, 0, none⟩)) :: κ) (pt b (cl l T) :: H)) : G P ops Q n d F (⟨some s, .box T x, ty, pos, after, none⟩ :: rest) κ H :=
  G.acts (Acts.box hx hv) hs (fun v H' ⟨b, h1, h2⟩ => by cases h1; subst h2; exact k b) (fun _ ⟨_, h, _⟩ => by cases h)

/-! ### Functions -/
/-- A call of a named function enters it. -/
def Real (P : Program) (f : FuncId) : Prop := ∀ args w, (callFunc f args).run P w = .ok (.enter f args) w
theorem Real.of {f : FuncId} {fn : Func} (h : P.funcs[f]? = some fn) (hb : fn.body.isNone = false) (hn : (fn.name == "runtime.NumGoroutine") = false) : Real P f := fun args w => by
  have hn' : fn.name ≠ "runtime.NumGoroutine" := by simpa using hn
  have hb' : fn.body ≠ none := by intro e; simp [e] at hb
  simp only [callFunc]
  simp [program, Sem.run, h, hb', hn']

/-- THE CONTRACT: called with these arguments, over this memory of its own and whatever frame, it returns v, and leaves H', R. -/
structure FnOk (P : Program) (f : FuncId) (args : List Value) (H : List Assn) (F : Frm) (R : Value → List Assn → Prop) : Prop where
  real : Real P f
  calls : ∀ w, Sat H F w → Calls P f args.toArray w fun e w' => ∃ v H', e = .returned v ∧ R v H' ∧ Sat H' F w'

def Q0 (P : Program) (fn : Func) (F : Frm) (R : Value → List Assn → Prop) : Exit → Act → World → Prop :=
  bodyPost P fn fun e w' => ∃ v H', e = .returned v ∧ R v H' ∧ Sat H' F w'

def idx (l : List Value) : Nat → List (Nat × Value) := fun k => match l with | [] => [] | v :: r => (k, v) :: idx r (k + 1)

theorem Fr.init {args : List Value} {n : Nat} (h : args.length ≤ n) : Fr n (idx args 0) [] ⟨args.toArray ++ Array.replicate (n - args.toArray.size) undef, []⟩ := by
  refine ⟨by simp; omega, fun s v hs => ?_, rfl⟩
  have key : ∀ (l : List Value) (k s : Nat) (v : Value), lk (idx l k) s = some v → k ≤ s ∧ l[s - k]? = some v := by
    intro l
    induction l with
    | nil => intro k s v h; simp [idx, lk] at h
    | cons x l ih =>
      intro k s v h
      simp only [idx, lk] at h
      cases hb : Nat.beq k s with
      | true => have e := Nat.eq_of_beq_eq_true hb; subst e; simp at h; subst h; simp
      | false =>
        have e := Nat.ne_of_beq_eq_false hb
        simp [hb] at h
        obtain ⟨h1, h2⟩ := ih _ _ _ h
        refine ⟨by omega, ?_⟩
        rw [show s - k = (s - (k + 1)) + 1 from by omega]; simpa using h2
  obtain ⟨_, h2⟩ := key args 0 s v hs
  simp at h2
  have hlt : s < args.length := by
    rcases Nat.lt_or_ge s args.length with h' | h'
    · exact h'
    · rw [List.getElem?_eq_none h'] at h2; cases h2
  rw [Array.getElem?_append_left (by simpa using hlt)]
  simpa using h2

theorem FnOk.of {f : FuncId} {fn : Func} {c : Code} {args : List Value} {κ : List (Nat × Value)} {R : Value → List Assn → Prop} (hf : P.funcs[f]? = some fn) (hb : fn.body = some c) (hnm : (fn.name == "runtime.NumGoroutine") = false)
    (hn : fn.ntmps = n) (hle : Nat.ble args.length n = true) (hκ : idx args 0 = κ) (h : Tr P c (Q0 P fn F R) n [] F κ H) : FnOk P f args H F R := by
  refine ⟨Real.of hf (by simp [hb]) hnm, fun w hs => ?_⟩
  refine calls_of_wp hf hb ?_
  rw [hn]
  exact h _ w (hκ ▸ Fr.init (by simpa using hle)) hs

/-! results -/
inductive Res (P : Program) (κ : List (Nat × Value)) (H : List Assn) : List ResultVar → List Value → Prop
  | nil : Res P κ H [] []
  | tmp {t v rs vs} : lk κ t = some v → Res P κ H rs vs → Res P κ H (.tmp t :: rs) (v :: vs)
  | cell {t T T' b k n l r R rs vs} : lk κ t = some (.pointer (some ⟨b, k, none⟩)) → Pick H (pt b (cl l T')) R → lyt P T = some (true, n) → subl l k n = some r → Res P κ H rs vs → Res P κ H (.cell t T :: rs) (.agg r.toArray :: vs)
  | cell1 {t T T' b k n l v R rs vs} : lk κ t = some (.pointer (some ⟨b, k, none⟩)) → Pick H (pt b (cl l T')) R → lyt P T = some (false, n) → subl l k 1 = some [v] → Res P κ H rs vs → Res P κ H (.cell t T :: rs) (v :: vs)

def resOf (tmps : Array Value) : ResultVar → Sem Value
  | .tmp t => pure (tmps.getD t undef)
  | .cell a t => do loadVar t (← asAddr (tmps.getD a undef))

theorem Res.run {rs : List ResultVar} {vs : List Value} {a : Act} {w : World} (h : Res P κ H rs vs) (hf : Fr n κ d a) (hs : Sat H F w) :
    (rs.mapM (resOf a.tmps)).run P w = .ok vs w := by
  induction h with
  | nil => simp
  | @tmp t v _ _ hl _ ih =>
    have := hf.get _ _ hl
    have h1 : (resOf a.tmps (.tmp t)).run P w = .ok v w := by simp only [resOf, Array.getD_eq_getD_getElem?, this]; exact Sem.run_pure P w _
    simp [List.mapM_cons, h1, ih]
  | @cell t T _ _ _ _ _ r _ _ _ hl hp hT hsub _ ih =>
    have := hf.get _ _ hl
    have h1 := loadVar_agg (P := P) hT (hs.pick hp).pt_head hsub
    have h2 : (resOf a.tmps (.cell t T)).run P w = .ok (.agg r.toArray) w := by simp only [resOf, Array.getD_eq_getD_getElem?, this, Option.getD_some, asAddr, pure_bind]; exact h1
    simp [List.mapM_cons, h2, ih]
  | @cell1 t T _ _ _ _ _ v _ _ _ hl hp hT hsub _ ih =>
    have := hf.get _ _ hl
    have h1 := loadVar_one (P := P) hT (hs.pick hp).pt_head hsub
    have h2 : (resOf a.tmps (.cell t T)).run P w = .ok v w := by simp only [resOf, Array.getD_eq_getD_getElem?, this, Option.getD_some, asAddr, pure_bind]; exact h1
    simp [List.mapM_cons, h2, ih]

theorem Sat.dropl : ∀ {X Y : List Assn} {F : Frm} {w : World}, Sat (X ++ Y) F w → Sat Y F w
  | [], _, _, _, h => h
  | _ :: _, _, _, _, h => Sat.dropl (Sat.drop h)

def oneV : List Value → Option Value
  | [v] => some v
  | vs => some (.tuple vs.toArray)

theorem Post.fin {fn : Func} {R : Value → List Assn → Prop} {rs : List ResultVar} {vs : List Value} {v : Value} {H' H'' : List Assn} (hr : fn.results = rs.toArray) (h : Res P κ H rs vs) (hv : oneV vs = some v)
    (hS : Split H H' H'') (hR : R v H') {e : Exit} (he : e = .ret ∨ e = .normal) : Post (Q0 P fn F R) e n [] F κ H := fun a w hf hs => by
  have hrun : (results fn a.tmps).run P w = .ok v w := by
    have h1 := h.run (P := P) hf hs
    have h2 : ((rs.toArray.mapM (resOf a.tmps)) : Sem (Array Value)).run P w = .ok vs.toArray w := by
      rw [List.mapM_toArray]
      rw [Sem.run_map, h1]
      rfl
    have h3 : results fn a.tmps = (do let vs ← fn.results.mapM (resOf a.tmps); pure (if h : vs.size = 1 then vs[0] else .tuple vs)) := rfl
    rw [h3, hr, Sem.run_bind, h2]
    simp only [Result.andThen]
    match vs, hv with
    | [], hv => simp [oneV] at hv; subst hv; simp
    | [x], hv => simp [oneV] at hv; subst hv; simp
    | x :: y :: r, hv => simp [oneV] at hv; subst hv; simp
  have hfin : ∃ v' K, Ending.returned v = .returned v' ∧ R v' K ∧ Sat K F w := ⟨v, H', rfl, hR, by
    exact ((hs.split hS).append_comm).dropl⟩
  rcases he with rfl | rfl
  · exact ⟨hf.defers, v, hrun, hfin⟩
  · exact ⟨hf.defers, v, hrun, hfin⟩

/-! calls -/
theorem wp_call {f : FuncId} {args : Array Value} {a : Act} {w w₀ : World} {o : Oper} {K : Act → World → Prop} (hrun : (execOp a.eval o).run P w₀ = .ok (.enter f args) w)
    (h : Calls P f args w fun e w' => ∃ v, e = .returned v ∧ K (a.put o.dst v) w') : o.wp P a w₀ K Q := by
  unfold Oper.wp
  rw [hrun, Oper.upon_enter]
  exact h.mono fun e w' ⟨v, he, hk⟩ => by subst he; exact hk

theorem run_callV {f : FuncId} {first caps vs l1 l2 : List Value} {x : Operand} {xs : Array Operand} {ats : Array TypeId} {dst : Option Tmp} {ty : TypeId} {pos : String} {after : Array Edge} {guard : Option (Nat × Bool)} {a : Act} {w : World} (hf : Fr n κ d a) (hr : Real P f)
    (hx : ev κ x = some (.func (.func f) first.toArray caps.toArray)) (hxs : evs κ xs.toList = some vs) (h1 : App first vs l1) (h2 : App l1 caps l2) :
    (execOp a.eval ⟨dst, .call { callee := .value x, args := xs, argTypes := ats }, ty, pos, after, guard⟩).run P w = .ok (.enter f l2.toArray) w := by
  have ex := hf.ev hx
  have exs : xs.map a.eval = vs.toArray := by apply Array.ext'; rw [← hf.evs hxs, Array.toList_map]
  generalize a.eval = ρ at ex exs ⊢
  have e2 : (first ++ vs) ++ caps = l2 := by rw [← h1.eq, h2.eq]
  simp only [execOp, resolve, ex, exs, Deferred.ofValue]
  simp only [Sem.run_bind, Sem.run_pure, Result.andThen, invoke]
  have : first.toArray ++ vs.toArray ++ caps.toArray = l2.toArray := by rw [← e2]; simp
  rw [this]
  exact hr _ w

theorem G.call {f : FuncId} {first caps vs l1 l2 : List Value} {x : Operand} {xs : Array Operand} {ats : Array TypeId} {s : Nat} {ty : TypeId} {pos : String} {after : Array Edge} {Hp Hr : List Assn} {R : Value → List Assn → Prop}
    (hx : ev κ x = some (.func (.func f) first.toArray caps.toArray)) (hxs : evs κ xs.toList = some vs) (h1 : App first vs l1) (h2 : App l1 caps l2) (hS : Split H Hp Hr)
    (spec : ∀ G, F.le G → (∀ A ∈ Hr, G.has A) → FnOk P f l2 Hp G R) (hs : Nat.blt s n = true)
    (k : ∀ v H', R v H' → G P ops Q n d F rest ((s, v) :: κ) (H' ++ Hr)) :
    G P ops Q n d F (⟨some s, .call { callee := .value x, args := xs, argTypes := ats }, ty, pos, after, none⟩ :: rest) κ H := fun a w hf hsat => by
  refine wpList_op (wanted_none _) ?_
  obtain ⟨F', hle, hhas, hsat', hback⟩ := Sat.frame Hr (hsat.split hS).append_comm
  have hsp := spec F' hle hhas
  refine wp_call (run_callV hf hsp.real hx hxs h1 h2) ((hsp.calls w hsat').mono ?_)
  rintro e w' ⟨v, H', rfl, hR, hs'⟩
  exact ⟨v, rfl, k v H' hR _ w' (hf.put hs) (hback _ _ hs').append_comm⟩
theorem G.call0 {f : FuncId} {first caps vs l1 l2 : List Value} {x : Operand} {xs : Array Operand} {ats : Array TypeId} {ty : TypeId} {pos : String} {after : Array Edge} {Hp Hr : List Assn} {R : Value → List Assn → Prop}
    (hx : ev κ x = some (.func (.func f) first.toArray caps.toArray)) (hxs : evs κ xs.toList = some vs) (h1 : App first vs l1) (h2 : App l1 caps l2) (hS : Split H Hp Hr)
    (spec : ∀ G, F.le G → (∀ A ∈ Hr, G.has A) → FnOk P f l2 Hp G R)
    (k : ∀ v H', R v H' → G P ops Q n d F rest κ (H' ++ Hr)) :
    G P ops Q n d F (⟨none, .call { callee := .value x, args := xs, argTypes := ats }, ty, pos, after, none⟩ :: rest) κ H := fun a w hf hsat => by
  refine wpList_op (wanted_none _) ?_
  obtain ⟨F', hle, hhas, hsat', hback⟩ := Sat.frame Hr (hsat.split hS).append_comm
  have hsp := spec F' hle hhas
  refine wp_call (run_callV hf hsp.real hx hxs h1 h2) ((hsp.calls w hsat').mono ?_)
  rintro e w' ⟨v, H', rfl, hR, hs'⟩
  exact ⟨v, rfl, k v H' hR _ w' hf (hback _ _ hs').append_comm⟩

end Go.Sl
/- The engine, part 6: addresses, structs, arrays, slices. -/
namespace Go.Sl
open Go

variable {P : Program} {n : Nat} {d : List Deferred} {F : Frm} {κ : List (Nat × Value)} {H : List Assn}
variable {Q : Exit → Act → World → Prop}

/-! rounds, one by one -/
theorem Tr.rounds {c : Code} (m : Nat) (h : ∀ a w, Fr n κ d a → Sat H F w → Code.rounds P c Q m a w) : Tr P (.loop c) Q n d F κ H :=
  fun a w hf hs => wp_loop_rounds m (h a w hf hs)
def Rn (P : Program) (c : Code) (Q : Exit → Act → World → Prop) (m : Nat) (n : Nat) (d : List Deferred) (F : Frm) (κ : List (Nat × Value)) (H : List Assn) : Prop :=
  ∀ a w, Fr n κ d a → Sat H F w → Code.rounds P c Q m a w
theorem Tr.unroll {c : Code} (m : Nat) (h : Rn P c Q m n d F κ H) : Tr P (.loop c) Q n d F κ H := Tr.rounds m h
theorem Rn.next {c : Code} {m : Nat} (h : Tr P c (Exit.then (Code.rounds P c Q m) Q) n d F κ H) : Rn P c Q (m + 1) n d F κ H := h
theorem Post.rounds {c : Code} {m : Nat} {Q' : Exit → Act → World → Prop} (h : Rn P c Q m n d F κ H) : Post (Exit.then (Code.rounds P c Q m) Q') .normal n d F κ H := h

/-! fields -/
theorem RO.fieldAddr {s f b k off : Nat} {x : Operand} (hx : ev κ x = some (.pointer (some ⟨b, k, none⟩))) (ho : fo P s f = some off) : RO P κ F (.fieldAddr s x f) (.pointer (some ⟨b, k + off, none⟩)) := by
  intro _ _ a w dst ty pos after guard hf hs
  have ex := hf.ev hx
  generalize a.eval = ρ at ex ⊢
  unfold fo at ho
  split at ho
  · rename_i fs hfs
    split at ho
    · rename_i fld hfld
      split at ho
      · rename_i i hi
        cases hz : Nat.beq i.size 0 with
        | true => simp [hz] at ho
        | false =>
          simp [hz] at ho
          have hne : i.size ≠ 0 := Nat.ne_of_beq_eq_false hz
          simp only [execOp, Instr.fieldAt]
          rw [Sem.run_bind, Sem.run_bind, run_underlying hfs]
          simp only [Result.andThen, hfld, ex, Instr.sureAddr, pure_bind, fieldPlace, sizeOf, bind_assoc]
          rw [Sem.run_bind, run_typeInfo hi]
          simp [Result.andThen, hne, Addr.add_none, ho]
      · cases ho
    · cases ho
  · cases ho

/-! structs and arrays put together -/
theorem plF_spec : ∀ {fs : List Field} {l : List (Nat × Nat)}, plF P fs = some l → ∀ w, (fs.mapM fun f => (do pure (f.offset, ← sizeOf f.type) : Sem (Nat × Nat))).run P w = .ok l w
  | [], l, h, w => by simp [plF] at h; subst h; simp
  | f :: r, l, h, w => by
    simp only [plF] at h
    cases hi : P.info? f.type with
    | none => simp [hi] at h
    | some j =>
      cases hr : plF P r with
      | none => simp [hi, hr] at h
      | some l' =>
        simp [hi, hr] at h; subst h
        have hsz : (sizeOf f.type).run P w = .ok j.size w := by simp only [sizeOf]; rw [Sem.run_bind, run_typeInfo hi]; simp [Result.andThen]
        have ih := plF_spec hr w
        have h1 : (do pure (f.offset, ← sizeOf f.type) : Sem (Nat × Nat)).run P w = .ok (f.offset, j.size) w := by rw [Sem.run_bind, hsz]; simp [Result.andThen]
        rw [List.mapM_cons, Sem.run_bind, h1]
        simp only [Result.andThen]
        rw [Sem.run_bind, ih]
        simp [Result.andThen]

def bld (place : Nat → Option (Nat × Nat)) : List Value → List (Nat × Value) → Option (List Value)
  | c, [] => some c
  | c, (i, v) :: r => match place i with
    | some (off, sz) => match vc v with
      | some us => bif Nat.beq us.length sz then (match updl c off us with | some c' => bld place c' r | none => none) else none
      | none => none
    | none => none

theorem fill_of_bld {place place' : Nat → Option (Nat × Nat)} (hp : ∀ i x, place i = some x → place' i = some x) : ∀ (ps : List (Nat × Value)) (c r : List Value), bld place c ps = some r → Instr.fill place' c.toArray ps = some r.toArray
  | [], c, r, h => by simp [bld] at h; subst h; simp [Instr.fill]
  | (i, v) :: ps, c, r, h => by
    simp only [bld] at h
    split at h
    · rename_i off sz hpl
      split at h
      · rename_i us hus
        cases hb : Nat.beq us.length sz with
        | false => simp [hb] at h
        | true =>
          have hlen := Nat.eq_of_beq_eq_true hb
          simp only [hb, cond_true] at h
          split at h
          · rename_i c' hc'
            have ih := fill_of_bld hp ps c' r h
            have hv := vc_spec hus
            have hvc : v.cells = us.toArray := by rw [← hv]
            obtain ⟨h1, h2, h3, h4⟩ := updl_spec hc'
            simp only [Instr.fill, hp _ _ hpl, hvc, List.size_toArray]
            rw [if_neg (by simp; omega)]
            have hfold : ∀ (us : List Value) (j : Nat) (cs : List Value), off + j + us.length ≤ cs.length →
                ((us.zipIdx j).foldl (fun cs (p : Value × Nat) => cs.setIfInBounds (off + p.2) p.1) cs.toArray).toList.length = cs.length ∧
                (∀ t, t < us.length → ((us.zipIdx j).foldl (fun cs (p : Value × Nat) => cs.setIfInBounds (off + p.2) p.1) cs.toArray).toList[off + j + t]? = us[t]?) ∧
                (∀ t, t < off + j ∨ off + j + us.length ≤ t → ((us.zipIdx j).foldl (fun cs (p : Value × Nat) => cs.setIfInBounds (off + p.2) p.1) cs.toArray).toList[t]? = cs[t]?) := by
              intro us
              induction us with
              | nil => intro j cs _; simp
              | cons u us ih =>
                intro j cs hle
                simp only [List.length_cons] at hle
                have hset : cs.toArray.setIfInBounds (off + j) u = (cs.set (off + j) u).toArray := by simp
                simp only [List.zipIdx_cons, List.foldl_cons, hset]
                obtain ⟨e1, e2, e3⟩ := ih (j + 1) (cs.set (off + j) u) (by simp; omega)
                refine ⟨by rw [e1]; simp, fun t ht => ?_, fun t ht => ?_⟩
                · cases t with
                  | zero =>
                    have := e3 (off + j) (by omega)
                    simp only [Nat.add_zero]
                    have hlt : off + j < cs.length := by omega
                    rw [this, List.getElem?_set_self hlt]; simp
                  | succ t =>
                    have := e2 t (by simpa using ht)
                    rw [show off + j + (t + 1) = off + (j + 1) + t from by omega, this]; simp
                · simp only [List.length_cons] at ht
                  rw [e3 t (by omega), List.getElem?_set_ne (by omega)]
            have hz : ((us.toArray.zipIdx).foldl (fun cs (x : Value × Nat) => cs.setIfInBounds (off + x.2) x.1) c.toArray) = c'.toArray := by
              obtain ⟨e1, e2, e3⟩ := hfold us 0 c (by omega)
              apply Array.ext'
              have : (us.toArray.zipIdx).foldl (fun cs (x : Value × Nat) => cs.setIfInBounds (off + x.2) x.1) c.toArray = (us.zipIdx 0).foldl (fun cs (p : Value × Nat) => cs.setIfInBounds (off + p.2) p.1) c.toArray := by
                rw [← Array.foldl_toList]; simp
              rw [this]
              apply List.ext_getElem?
              intro t
              by_cases ht : t < off ∨ off + us.length ≤ t
              · rw [e3 t (by simpa using ht)]; exact (h4 t ht).symm
              · have : t = off + (t - off) := by omega
                rw [this]
                have h5 := e2 (t - off) (by omega)
                simp only [Nat.add_zero] at h5
                rw [h5]; exact (h3 (t - off) (by omega)).symm
            rw [← hz] at ih
            exact ih
          · cases h
      · cases h
    · cases h

def parts (κ : List (Nat × Value)) : List (Nat × Operand) → Option (List (Nat × Value))
  | [] => some []
  | (i, x) :: r => match ev κ x with | some v => (match parts κ r with | some l => some ((i, v) :: l) | none => none) | none => none
theorem Fr.parts {a : Act} (h : Fr n κ d a) : ∀ {xs : List (Nat × Operand)} {vs : List (Nat × Value)}, parts κ xs = some vs → xs.map (fun p => (p.1, a.eval p.2)) = vs
  | [], vs, he => by simp only [Sl.parts, Option.some.injEq] at he; simp [← he]
  | (i, x) :: r, vs, he => by
    simp only [Sl.parts] at he
    cases h1 : Sl.ev κ x with
    | none => simp [h1] at he
    | some v =>
      cases h2 : Sl.parts κ r with
      | none => simp [h1, h2] at he
      | some l => simp [h1, h2] at he; subst he; simp [h.ev h1, h.parts h2]

theorem RO.build {T : Nat} {ps : Array (Nat × Operand)} {place : List (Nat × Nat)} {zs r : List Value} {vs : List (Nat × Value)} (hpl : pl P T = some place) (hz : zv P T = some zs) (hps : parts κ ps.toList = some vs) (hb : bld (fun i => place[i]?) zs vs = some r) :
    RO P κ F (.build T ps) (.agg r.toArray) := by
  intro _ _ a w dst ty pos after guard hf hs
  have eps : (ps.map fun p => (p.1, a.eval p.2)).toList = vs := by rw [Array.toList_map]; exact hf.parts hps
  generalize a.eval = ρ at eps ⊢
  unfold zv at hz
  cases hi : P.info? T with
  | none => simp [hi] at hz
  | some i =>
    simp only [hi] at hz
    cases hz0 : i.zero with
    | none => simp [hz0] at hz
    | some z =>
      simp only [hz0] at hz
      have hzc : z.cells = zs.toArray := by rw [← vc_spec hz]
      have hzv : (zeroValue T).run P w = .ok z w := by
        simp only [zeroValue]
        rw [Sem.run_bind, run_typeInfo hi]
        simp [Result.andThen, hz0]
      have e2 : (Array.map (fun (x : Nat × Operand) => (x.1, ρ x.2)) ps).toList = vs := eps
      simp only [execOp, Instr.build]
      rw [Sem.run_bind, Sem.run_bind, hzv]
      simp only [Result.andThen]
      unfold pl at hpl
      cases hu : P.underlying T with
      | none => simp [hu] at hpl
      | some dd =>
        rw [Sem.run_bind, run_underlying hu]
        simp only [Result.andThen]
        cases dd <;> simp only [hu] at hpl <;> try (cases hpl; done)
        case array m e =>
          cases he : P.info? e with
          | none => simp [he] at hpl
          | some j =>
            simp only [he, Option.some.injEq] at hpl
            have hsz : (sizeOf e).run P w = .ok j.size w := by simp only [sizeOf]; rw [Sem.run_bind, run_typeInfo he]; simp [Result.andThen]
            rw [Sem.run_bind, hsz]
            simp only [Result.andThen]
            have := fill_of_bld (place' := fun i => some (i * j.size, j.size)) (fun i x hx => by
              rw [← hpl, List.getElem?_map] at hx
              cases hr : (List.range m)[i]? with
              | none => simp [hr] at hx
              | some i' =>
                simp [hr] at hx
                have : i' = i := by
                  obtain ⟨hlt, he⟩ := List.getElem?_eq_some_iff.1 hr
                  simpa using he.symm
                subst this; simp [hx]) vs zs r hb
            simp only [hzc]
            rw [e2, this]
            simp
        case struct fs =>
          have hmap : (fs.mapM fun f => (do pure (f.offset, ← sizeOf f.type) : Sem (Nat × Nat))).run P w = .ok place.toArray w := by
            have h1 : fs = fs.toList.toArray := by simp
            rw [h1, List.mapM_toArray, Sem.run_map, plF_spec hpl]
            simp [Result.andThen]
          rw [Sem.run_bind, hmap]
          simp only [Result.andThen]
          have := fill_of_bld (place' := fun i => place.toArray[i]?) (fun i x hx => by simpa using hx) vs zs r hb
          simp only [hzc]
          rw [e2, this]
          simp

/-! arrays by value; addresses of elements -/
theorem RO.index {T m e s : Nat} {x i : Operand} {k : IntKind} {j : Int} {l r : List Value} (hx : ev κ x = some (.agg l.toArray)) (hi : ev κ i = some (.int k j)) (hT : arr P T = some (m, e, true, s)) (hj : 0 ≤ j ∧ j < m) (hs : subl l (j.toNat * s) s = some r) :
    RO P κ F (.index T x i) (.agg r.toArray) := by
  intro _ _ a w dst ty pos after guard hf hsat
  have ex := hf.ev hx; have ei := hf.ev hi
  generalize a.eval = ρ at ex ei ⊢
  unfold arr at hT
  cases hu : P.underlying T with
  | none => simp [hu] at hT
  | some dd =>
    cases dd <;> simp only [hu] at hT <;> try (cases hT; done)
    rename_i m' e'
    cases hl : lyt P e' with
    | none => simp [hl] at hT
    | some gs =>
      obtain ⟨g, s'⟩ := gs
      simp only [hl, Option.some.injEq, Prod.mk.injEq] at hT
      obtain ⟨rfl, rfl, rfl, rfl⟩ := hT
      simp only [execOp, Instr.index, ex, ei, asIntOf, pure_bind]
      rw [Sem.run_bind, Sem.run_bind, run_underlying hu]
      simp only [Result.andThen]
      rw [if_pos hj, Sem.run_bind, run_sizeOf hl]
      simp only [Result.andThen, part]
      rw [Sem.run_bind, run_isAgg hl]
      simp only [Result.andThen, if_true]
      rw [Sem.run_bind, run_sizeOf hl]
      obtain ⟨h1, h2⟩ := subl_spec hs
      have : l.toArray.extract (j.toNat * s') (j.toNat * s' + s') = r.toArray := by
        apply Array.ext'
        simp only [List.extract_toArray, List.extract_eq_take_drop]
        apply List.ext_getElem?
        intro t
        rw [show j.toNat * s' + s' - j.toNat * s' = s' from by omega]
        rw [List.getElem?_take]
        split
        · rename_i ht; rw [List.getElem?_drop]; exact h2 t ht
        · rename_i ht; exact (List.getElem?_eq_none (by omega)).symm
      simp [Result.andThen, this]

/-- A pointer to an array, an index that is in range. -/
theorem RO.indexArr {T m e s b k : Nat} {g : Bool} {x i : Operand} {ik : IntKind} {j : Int} (hx : ev κ x = some (.pointer (some ⟨b, k, none⟩))) (hi : ev κ i = some (.int ik j)) (hT : arr P T = some (m, e, g, s)) (hj : 0 ≤ j ∧ j < m) :
    RO P κ F (.indexAddr T x i) (.pointer (some ⟨b, k + j.toNat * s, none⟩)) := by
  intro _ _ a w dst ty pos after guard hf hsat
  have ex := hf.ev hx; have ei := hf.ev hi
  generalize a.eval = ρ at ex ei ⊢
  unfold arr at hT
  cases hu : P.underlying T with
  | none => simp [hu] at hT
  | some dd =>
    cases dd <;> simp only [hu] at hT <;> try (cases hT; done)
    rename_i m' e'
    cases hl : lyt P e' with
    | none => simp [hl] at hT
    | some gs =>
      obtain ⟨g', s'⟩ := gs
      simp only [hl, Option.some.injEq, Prod.mk.injEq] at hT
      obtain ⟨rfl, rfl, rfl, rfl⟩ := hT
      simp only [execOp, Instr.indexAt, ex, ei, asIntOf, pure_bind, Instr.sureAddr]
      simp [run_underlying hu, run_sizeOf hl, hj, Addr.add_none]

theorem slt_spec {T e s : Nat} {g : Bool} (h : slt P T = some (e, g, s)) : P.underlying T = some (.slice e) ∧ lyt P e = some (g, s) := by
  unfold slt at h
  cases hu : P.underlying T with
  | none => simp [hu] at h
  | some dd =>
    cases dd <;> simp only [hu] at h <;> try (cases h; done)
    rename_i e'
    cases hl : lyt P e' with
    | none => simp [hl] at h
    | some gs =>
      obtain ⟨g', s'⟩ := gs
      simp only [hl, Option.some.injEq, Prod.mk.injEq] at h
      obtain ⟨rfl, rfl, rfl⟩ := h
      exact ⟨rfl, hl⟩
theorem RO.indexSl {T m c e s b k : Nat} {g : Bool} {x i : Operand} {ik : IntKind} {j : Int} (hx : ev κ x = some (.slice (some ⟨b, k, none⟩) m c)) (hi : ev κ i = some (.int ik j)) (hT : slt P T = some (e, g, s)) (hj : 0 ≤ j ∧ j < m) :
    RO P κ F (.indexAddr T x i) (.pointer (some ⟨b, k + j.toNat * s, none⟩)) := by
  intro _ _ a w dst ty pos after guard hf hsat
  have ex := hf.ev hx; have ei := hf.ev hi
  generalize a.eval = ρ at ex ei ⊢
  obtain ⟨hu, hl⟩ := slt_spec hT
  simp only [execOp, Instr.indexAt, ex, ei, asIntOf, pure_bind]
  simp [run_underlying hu, run_sizeOf hl, hj, Addr.add_none]
theorem RO.lenSl {T m c e s : Nat} {g : Bool} {x : Operand} {p : Option Addr} (hx : ev κ x = some (.slice p m c)) (hT : slt P T = some (e, g, s)) : RO P κ F (.call { callee := .builtin .len, args := #[x], argTypes := #[T] }) (.int .i64 m) := by
  intro _ _ a w dst ty pos after guard hf hsat
  have ex := hf.ev hx
  generalize a.eval = ρ at ex ⊢
  obtain ⟨hu, hl⟩ := slt_spec hT
  simp only [execOp, resolve]
  simp only [Sem.run_bind, Sem.run_pure, Result.andThen, invoke, builtin]
  simp only [Builtin.len_]
  simp [ex, run_underlying hu, Result.andThen, goInt]

end Go.Sl

namespace Go.Sl
open Go
variable {P : Program} {n : Nat} {d : List Deferred} {F : Frm} {κ : List (Nat × Value)} {H : List Assn}
variable {Q : Exit → Act → World → Prop} {ops : Array Oper} {rest : List Oper}

/-! results told outright -/
theorem RO.to {op : Op} {v u : Value} (h : RO P κ F op v) (e : v = u) : RO P κ F op u := e ▸ h
theorem RO.bT {op : Op} {p : Prop} [Decidable p] (h : RO P κ F op (.bool (decide p))) (hp : p) : RO P κ F op (.bool true) := h.to (by rw [decide_eq_true hp])
theorem RO.bF {op : Op} {p : Prop} [Decidable p] (h : RO P κ F op (.bool (decide p))) (hp : ¬ p) : RO P κ F op (.bool false) := h.to (by rw [decide_eq_false hp])
theorem RO.nT {op : Op} {p : Prop} [Decidable p] (h : RO P κ F op (.bool (!decide p))) (hp : ¬ p) : RO P κ F op (.bool true) := h.to (by rw [decide_eq_false hp]; rfl)
theorem RO.nF {op : Op} {p : Prop} [Decidable p] (h : RO P κ F op (.bool (!decide p))) (hp : p) : RO P κ F op (.bool false) := h.to (by rw [decide_eq_true hp]; rfl)

/-- A comparison parts the ways. -/
theorem G.cmp {op : Op} {s : Nat} {ty : TypeId} {pos : String} {after : Array Edge} {p : Prop} [Decidable p] (h : RO P κ F op (.bool (decide p))) (hs : Nat.blt s n = true)
    (kt : p → G P ops Q n d F rest ((s, .bool true) :: κ) H) (kf : ¬ p → G P ops Q n d F rest ((s, .bool false) :: κ) H) : G P ops Q n d F (⟨some s, op, ty, pos, after, none⟩ :: rest) κ H := by
  by_cases hp : p
  · exact G.ro (h.bT hp).rd hs (kt hp)
  · exact G.ro (h.bF hp).rd hs (kf hp)
theorem G.cmpn {op : Op} {s : Nat} {ty : TypeId} {pos : String} {after : Array Edge} {p : Prop} [Decidable p] (h : RO P κ F op (.bool (!decide p))) (hs : Nat.blt s n = true)
    (kt : ¬ p → G P ops Q n d F rest ((s, .bool true) :: κ) H) (kf : p → G P ops Q n d F rest ((s, .bool false) :: κ) H) : G P ops Q n d F (⟨some s, op, ty, pos, after, none⟩ :: rest) κ H := by
  by_cases hp : p
  · exact G.ro (h.nF hp).rd hs (kf hp)
  · exact G.ro (h.nT hp).rd hs (kt hp)
theorem RO.notL {x : Operand} {t : TypeId} {b c : Bool} (hx : ev κ x = some (.bool b)) (e : (!b) = c) : RO P κ F (.unOp .not t x) (.bool c) := (RO.not hx).to (by rw [e])
theorem RO.intL {op : Op} {k : IntKind} {z y : Int} (h : RO P κ F op (.int k z)) (e : z = y) : RO P κ F op (.int k y) := h.to (by rw [e])

/-! builtins min, max -/
theorem RO.min2 {x y : Operand} {ats : Array TypeId} {m n : Int} {k : IntKind} (hx : ev κ x = some (.int k m)) (hy : ev κ y = some (.int k n)) : RO P κ F (.call { callee := .builtin .min, args := #[x, y], argTypes := ats }) (.int k (min m n)) := by
  intro _ _ a w dst ty pos after guard hf hsat
  have ex := hf.ev hx; have ey := hf.ev hy
  generalize a.eval = ρ at ex ey ⊢
  simp only [execOp, resolve]
  simp only [Sem.run_bind, Sem.run_pure, Result.andThen, invoke, builtin]
  simp [Builtin.min_, Builtin.min2, ex, ey, Int.min_def]
  by_cases h : n < m <;> simp [h] <;> omega
theorem RO.max2 {x y : Operand} {ats : Array TypeId} {m n : Int} {k : IntKind} (hx : ev κ x = some (.int k m)) (hy : ev κ y = some (.int k n)) : RO P κ F (.call { callee := .builtin .max, args := #[x, y], argTypes := ats }) (.int k (max m n)) := by
  intro _ _ a w dst ty pos after guard hf hsat
  have ex := hf.ev hx; have ey := hf.ev hy
  generalize a.eval = ρ at ex ey ⊢
  simp only [execOp, resolve]
  simp only [Sem.run_bind, Sem.run_pure, Result.andThen, invoke, builtin]
  simp [Builtin.max_, Builtin.max2, ex, ey, Int.max_def]
  by_cases h : m < n <;> simp [h] <;> omega
end Go.Sl
