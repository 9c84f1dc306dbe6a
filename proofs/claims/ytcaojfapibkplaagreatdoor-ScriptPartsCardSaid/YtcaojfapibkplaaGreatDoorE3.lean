/- The engine, part 3: regions drawn in any order, closures, loops, copies. -/
import Derived.Test.YtcaojfapibkplaaGreatDoorE2
import Derived.Laws.StructEq
/- The engine, part 14: two that may come up. -/
namespace Go.Sl
open Go

variable {P : Program} {n : Nat} {d : List Deferred} {F : Frm} {κ : List (Nat × Value)} {H : List Assn}
variable {Q : Exit → Act → World → Prop} {rest : List Oper} {c : Code}

def two (ops : List Oper) (listed : List Bool) (i j : Nat) : Bool := match readys ops listed with | [x, y] => Nat.beq x i && Nat.beq y j | _ => false

theorem GD.rd2 {ops : List Oper} {i j s s' fuel : Nat} {op op' : Op} {ty ty' : TypeId} {pos pos' : String} {after after' : Array Edge} {listed l1 l2 : List Bool} {v v' : Value} (hi : ops[i]? = some ⟨some s, op, ty, pos, after, none⟩) (hj : ops[j]? = some ⟨some s', op', ty', pos', after', none⟩)
    (hm : two ops listed i j = true) (hl1 : setL listed i = some l1) (hl2 : setL listed j = some l2) (h : RD P κ H F op v) (h' : RD P κ H F op' v') (hs : Nat.blt s n = true) (hs' : Nat.blt s' n = true)
    (k1 : GD P ops Q n d F fuel l1 ((s, v) :: κ) H) (k2 : GD P ops Q n d F fuel l2 ((s', v') :: κ) H) : GD P ops Q n d F (fuel + 1) listed κ H := fun a w hf hsat => by
  have hr : Region.ready .any ops.toArray listed.toArray = [i, j] := by
    rw [readys_eq]
    unfold two at hm
    split at hm
    · rename_i x y hxy
      simp only [Bool.and_eq_true] at hm
      rw [hxy, Nat.eq_of_beq_eq_true hm.1, Nat.eq_of_beq_eq_true hm.2]
    · cases hm
  refine wpAnyZ_all hr (by simp) ?_
  intro t ht
  simp only [List.mem_cons, List.not_mem_nil, or_false] at ht
  unfold wpOp
  rcases ht with rfl | rfl
  · have hi' : ops.toArray[t]? = some ⟨some s, op, ty, pos, after, none⟩ := by simpa using hi
    rw [hi']
    simp only [Region.wanted, if_true]
    left
    unfold Oper.wp
    rw [h n d a w _ _ _ _ _ hf hsat, Oper.upon_value]
    refine ⟨.inr hsat.inn, ?_⟩
    have := k1 (a.put (some s) v) w (hf.put hs) hsat
    rw [← setL_spec hl1] at this
    simpa using this
  · have hi' : ops.toArray[t]? = some ⟨some s', op', ty', pos', after', none⟩ := by simpa using hj
    rw [hi']
    simp only [Region.wanted, if_true]
    left
    unfold Oper.wp
    rw [h' n d a w _ _ _ _ _ hf hsat, Oper.upon_value]
    refine ⟨.inr hsat.inn, ?_⟩
    have := k2 (a.put (some s') v') w (hf.put hs') hsat
    rw [← setL_spec hl2] at this
    simpa using this

theorem keyIk {T : TypeId} (hT : intK P T = some .i64) : KeyOk P T ekI := keyI (intK_ok hT) rfl
theorem RO.convI {S T : TypeId} {x : Operand} {k k0 k' : IntKind} {m : Int} (hx : ev κ x = some (.int k' m)) (hS : intK P S = some k0) (hT : intK P T = some k) : RO P κ F (.convert S T x) (.int k (k.wrap m)) := RO.convInt hx (by rw [intK_ok hS]; rfl) hT
theorem RO.convI64 {S T : TypeId} {x : Operand} {k0 k' : IntKind} {m : Int} (hx : ev κ x = some (.int k' m)) (hS : intK P S = some k0) (hT : intK P T = some .i64) (hm : -9223372036854775808 ≤ m ∧ m ≤ 9223372036854775807) : RO P κ F (.convert S T x) (.int .i64 m) := RO.convInt64 hx (by rw [intK_ok hS]; rfl) hT hm

theorem RO.indexStrI {T : TypeId} {x y : Operand} {l : List UInt8} {k : IntKind} {i : Nat} {z : Int} {b : UInt8} (hx : ev κ x = some (str l)) (hy : ev κ y = some (.int k z)) (hT : isStr P T = true) (hb : l[i]? = some b) (hz : z = (i : Int)) : RO P κ F (.index T x y) (.int .u8 b.toNat) := by
  subst hz; exact RO.indexStr hx hy hT hb
theorem RO.sliceStrI (i j : Nat) {T : TypeId} {x y z : Operand} {l : List UInt8} {k k' : IntKind} {yi zj : Int} (hx : ev κ x = some (str l)) (hy : ev κ y = some (.int k yi)) (hz : ev κ z = some (.int k' zj)) (hT : isStr P T = true) (h : yi = (i : Int) ∧ zj = (j : Int) ∧ i ≤ j ∧ j ≤ l.length) : RO P κ F (.slice T x (some y) (some z) none) (str ((l.drop i).take (j - i))) := by
  obtain ⟨rfl, rfl, h1, h2⟩ := h; exact RO.sliceStr hx hy hz hT h1 h2
theorem RO.sliceStrToI (j : Nat) {T : TypeId} {x z : Operand} {l : List UInt8} {k' : IntKind} {zj : Int} (hx : ev κ x = some (str l)) (hz : ev κ z = some (.int k' zj)) (hT : isStr P T = true) (h : zj = (j : Int) ∧ j ≤ l.length) : RO P κ F (.slice T x none (some z) none) (str (l.take j)) := by
  obtain ⟨rfl, h1⟩ := h; exact RO.sliceStrTo hx hz hT h1
theorem RO.sliceStrFromI (i : Nat) {T : TypeId} {x y : Operand} {l : List UInt8} {k : IntKind} {yi : Int} (hx : ev κ x = some (str l)) (hy : ev κ y = some (.int k yi)) (hT : isStr P T = true) (h : yi = (i : Int) ∧ i ≤ l.length) : RO P κ F (.slice T x (some y) none none) (str (l.drop i)) := by
  obtain ⟨rfl, h1⟩ := h; exact RO.sliceStrFrom hx hy hT h1
theorem RO.atElI {α : Type} {T T' c e s : Nat} (i : Nat) {g : Bool} {en : α → List Value} {p : Option Addr} {l : List α} {a : α} {x y : Operand} {ik : IntKind} {z : Int} (hx : ev κ x = some (.slice p l.length c)) (hi : ev κ y = some (.int ik z)) (hT : slt P T = some (e, g, s)) (hA : F.has (sA T' s en p c l)) (ha : l[i]? = some a) (hz : z = (i : Int)) : RO P κ F (.indexAddr T x y) (ep p i s 0) := by
  subst hz; exact RO.atEl hx hi hT hA ha
theorem RD.atElI {α : Type} {T T' c e s : Nat} (i : Nat) {g : Bool} {en : α → List Value} {p : Option Addr} {l : List α} {a : α} {x y : Operand} {ik : IntKind} {z : Int} {R : List Assn} (hx : ev κ x = some (.slice p l.length c)) (hi : ev κ y = some (.int ik z)) (hT : slt P T = some (e, g, s)) (hA : Pick H (sA T' s en p c l) R) (ha : l[i]? = some a) (hz : z = (i : Int)) : RD P κ H F (.indexAddr T x y) (ep p i s 0) := by
  subst hz; exact RD.atEl hx hi hT hA ha
theorem RO.eqlPtrT {T e : Nat} {u : TypeId} {x y : Operand} (hx : ev κ x = some (.pointer none)) (hy : ev κ y = some (.pointer none)) (hT : ptrT P T = some e) : RO P κ F (.binOp .eql T x y u) (.bool true) := RO.eqlPtrNil hx hy hT
theorem RO.eqlPtrF {T e : Nat} {u : TypeId} {x y : Operand} {a : Addr} (hx : ev κ x = some (.pointer (some a))) (hy : ev κ y = some (.pointer none)) (hT : ptrT P T = some e) : RO P κ F (.binOp .eql T x y u) (.bool false) := RO.eqlPtrNil hx hy hT
theorem RO.neqPtrF {T e : Nat} {u : TypeId} {x y : Operand} (hx : ev κ x = some (.pointer none)) (hy : ev κ y = some (.pointer none)) (hT : ptrT P T = some e) : RO P κ F (.binOp .neq T x y u) (.bool false) := RO.neqPtrNil hx hy hT
theorem RO.neqPtrT {T e : Nat} {u : TypeId} {x y : Operand} {a : Addr} (hx : ev κ x = some (.pointer (some a))) (hy : ev κ y = some (.pointer none)) (hT : ptrT P T = some e) : RO P κ F (.binOp .neq T x y u) (.bool true) := RO.neqPtrNil hx hy hT

theorem G.delete {K V : Type} [DecidableEq K] {ops : Array Oper} {T kt et b : Nat} {ek : K → Value} {ev' : V → Value} {m : List (K × V)} (k : K) {x y : Operand} {u : TypeId} {R : List Assn} {ty : TypeId} {pos : String} {after : Array Edge} (hx : ev κ x = some (.map (some b))) (hy : ev κ y = some (ek k)) (hT : mpt P T = some (kt, et)) (hk : KeyOk P kt ek) (hp : Pick H (mA ek ev' b m) R)
    (kk : G P ops Q n d F rest κ (mA ek ev' b (delm k m) :: R)) : G P ops Q n d F (⟨none, .call { callee := .builtin .delete, args := #[x, y], argTypes := #[T, u] }, ty, pos, after, none⟩ :: rest) κ H :=
  G.acts0 (Acts.delete k hx hy hT hk hp) (fun _ _ h => h.2 ▸ kk)
theorem G.delete1 {K V : Type} [DecidableEq K] {ops : Array Oper} {T kt et b s : Nat} {ek : K → Value} {ev' : V → Value} {m : List (K × V)} (k : K) {x y : Operand} {u : TypeId} {R : List Assn} {ty : TypeId} {pos : String} {after : Array Edge} (hx : ev κ x = some (.map (some b))) (hy : ev κ y = some (ek k)) (hT : mpt P T = some (kt, et)) (hk : KeyOk P kt ek) (hp : Pick H (mA ek ev' b m) R) (hs : Nat.blt s n = true)
    (kk : G P ops Q n d F rest ((s, .tuple #[]) :: κ) (mA ek ev' b (delm k m) :: R)) : G P ops Q n d F (⟨some s, .call { callee := .builtin .delete, args := #[x, y], argTypes := #[T, u] }, ty, pos, after, none⟩ :: rest) κ H :=
  G.acts (Acts.delete k hx hy hT hk hp) hs (fun v _ h => by obtain ⟨h1, rfl⟩ := h; cases h1; exact kk) (fun _ h => by cases h.1)
theorem G.unsafeStr {ops : Array Oper} {T U e s : Nat} {x y : Operand} {b off cp : Nat} {l : List UInt8} {R : List Assn} {ty : TypeId} {pos : String} {after : Array Edge} (hx : ev κ x = some (.pointer (some ⟨b, off, none⟩))) (hy : ev κ y = some (.int .i64 l.length)) (hT : ptrT P T = some e) (he : P.cellsOf e = 1) (hl : l ≠ []) (hb : l.length ≤ 9223372036854775807) (hp : Pick H (sA e 1 by8 (some ⟨b, off, none⟩) cp l) R) (hs : Nat.blt s n = true)
    (kk : G P ops Q n d F rest ((s, str l) :: κ) R) : G P ops Q n d F (⟨some s, .call { callee := .builtin .unsafeString, args := #[x, y], argTypes := #[T, U] }, ty, pos, after, none⟩ :: rest) κ H :=
  G.acts (Acts.unsafeStr hx hy hT he hl hb hp) hs (fun v _ h => by obtain ⟨h1, rfl⟩ := h; cases h1; exact kk) (fun _ h => by cases h.1)

theorem by8.el : El by8 1 := by8_el
theorem GD.append1 {α : Type} {T T0 e s by_ sz cp c2 b sl i fuel : Nat} {ops : List Oper} {listed listed' : List Bool} {z us : List Value} {en : α → List Value} {p : Option Addr} {l : List α} {x y : Operand} {R R0 : List Assn} {ty : TypeId} {pos : String} {after : Array Edge} (a : α) (hE : El en sz)
    (hi : ops[i]? = some ⟨some sl, .call { callee := .builtin .append, args := #[x, y], argTypes := #[T, T] }, ty, pos, after, none⟩) (hm : only ops listed i = true) (hl : setL listed i = some listed')
    (hx : ev κ x = some (.slice p l.length cp)) (hy : ev κ y = some (.slice (some ⟨b, 0, none⟩) 1 c2)) (hT : apt P T = some (e, s, by_, z)) (hs : s = sz) (hp : Pick H (sA e sz en p cp l) R) (hn : l.length + 1 ≤ 1073741824)
    (hq : Pick R (pt b (cl us T0)) R0) (hu : en a = us) (hsl : Nat.blt sl n = true)
    (k : ∀ p' c', GD P ops Q n d F fuel listed' ((sl, .slice p' (l ++ [a]).length c') :: κ) (sA e sz en p' c' (l ++ [a]) :: R)) :
    GD P ops Q n d F (fuel + 1) listed κ H := by
  refine GD.acts hi hm hl (Acts.append [a] hE hx hy hT hs hp (by simpa using hn) (fun w hw => ?_)) hsl ?_ (fun _ ⟨_, _, h, _⟩ => by cases h)
  · have h2 := (hw.pick hp).drop.pick hq
    have hl : us.length = 1 * sz := by rw [← hu, hE.len]; omega
    have : flat en [a] = us := by simp [flat, hu]
    rw [this]
    exact Reads.pt h2.pt_head hl
  · rintro v H' ⟨p', c', h1, h2⟩
    cases h1; subst h2
    exact k p' c'
theorem GD.appendF {α : Type} {T T0 e s by_ sz cp c2 sl i fuel : Nat} {ops : List Oper} {listed listed' : List Bool} {z : List Value} {en : α → List Value} {p q : Option Addr} {l m : List α} {x y : Operand} {R : List Assn} {ty : TypeId} {pos : String} {after : Array Edge} (hE : El en sz)
    (hi : ops[i]? = some ⟨some sl, .call { callee := .builtin .append, args := #[x, y], argTypes := #[T, T] }, ty, pos, after, none⟩) (hm' : only ops listed i = true) (hl : setL listed i = some listed')
    (hx : ev κ x = some (.slice p l.length cp)) (hy : ev κ y = some (.slice q m.length c2)) (hT : apt P T = some (e, s, by_, z)) (hs : s = sz) (hp : Pick H (sA e sz en p cp l) R) (hn : l.length + m.length ≤ 1073741824)
    (hq : F.has (sA T0 sz en q c2 m)) (hsl : Nat.blt sl n = true)
    (k : ∀ p' c', GD P ops Q n d F fuel listed' ((sl, .slice p' (l ++ m).length c') :: κ) (sA e sz en p' c' (l ++ m) :: R)) :
    GD P ops Q n d F (fuel + 1) listed κ H := by
  refine GD.acts hi hm' hl (Acts.append m hE hx hy hT hs hp hn (fun w hw => Reads.sA hE hq hw.inn)) hsl ?_ (fun _ ⟨_, _, h, _⟩ => by cases h)
  rintro v H' ⟨p', c', h1, h2⟩
  cases h1; subst h2
  exact k p' c'
theorem GD.appendH {α : Type} {T T0 e s by_ sz cp c2 sl i fuel : Nat} {ops : List Oper} {listed listed' : List Bool} {z : List Value} {en : α → List Value} {p q : Option Addr} {l m : List α} {x y : Operand} {R R0 : List Assn} {ty : TypeId} {pos : String} {after : Array Edge} (hE : El en sz)
    (hi : ops[i]? = some ⟨some sl, .call { callee := .builtin .append, args := #[x, y], argTypes := #[T, T] }, ty, pos, after, none⟩) (hm' : only ops listed i = true) (hl : setL listed i = some listed')
    (hx : ev κ x = some (.slice p l.length cp)) (hy : ev κ y = some (.slice q m.length c2)) (hT : apt P T = some (e, s, by_, z)) (hs : s = sz) (hp : Pick H (sA e sz en p cp l) R) (hn : l.length + m.length ≤ 1073741824)
    (hq : Pick H (sA T0 sz en q c2 m) R0) (hsl : Nat.blt sl n = true)
    (k : ∀ p' c', GD P ops Q n d F fuel listed' ((sl, .slice p' (l ++ m).length c') :: κ) (sA e sz en p' c' (l ++ m) :: R)) :
    GD P ops Q n d F (fuel + 1) listed κ H := by
  refine GD.acts hi hm' hl (Acts.append m hE hx hy hT hs hp hn (fun w hw => ?_)) hsl ?_ (fun _ ⟨_, _, h, _⟩ => by cases h)
  · obtain ⟨G, _, hA, _, hin⟩ := (hw.pick hq).has
    exact Reads.sA hE hA hin
  · rintro v H' ⟨p', c', h1, h2⟩
    cases h1; subst h2
    exact k p' c'
theorem GD.storeEl {α : Type} {T T' i sz k m cp i0 fuel : Nat} {g : Bool} {ops : List Oper} {listed listed' : List Bool} {e : α → List Value} {p : Option Addr} {l : List α} {a : α} (a' : α) {x y : Operand} {v : Value} {us : List Value} {H' : List Assn} {ty : TypeId} {pos : String} {after : Array Edge}
    (hi : ops[i0]? = some ⟨none, .store T x y, ty, pos, after, none⟩) (hm' : only ops listed i0 = true) (hl : setL listed i0 = some listed') (hE : El e sz) (hx : ev κ x = some (ep p i sz k)) (hy : ev κ y = some v)
    (hv : vc v = some us) (ho : allOne us = true) (hT : lyt P T = some (g, m)) (hm : us.length = m) (ha : l[i]? = some a) (he : updl (e a) k us = some (e a')) (hu : Upd H (sA T' sz e p cp l) (sA T' sz e p cp (l.set i a')) H')
    (kk : GD P ops Q n d F fuel listed' κ H') : GD P ops Q n d F (fuel + 1) listed κ H :=
  GD.acts0 hi hm' hl (Acts.storeEp hE hx hy hv ho hT hm ha he hu) (fun _ _ h => h.2 ▸ kk)
theorem GD.mem {fuel : Nat} {ops : List Oper} {listed : List Bool} {H' : List Assn} (hm : ∀ {w}, Sat H F w → Sat H' F w) (h : GD P ops Q n d F fuel listed κ H') : GD P ops Q n d F fuel listed κ H := fun a w hf hs => h a w hf (hm hs)
theorem GD.nilS {α : Type} {fuel : Nat} {ops : List Oper} {listed : List Bool} (T sz : Nat) (e : α → List Value) (h : GD P ops Q n d F fuel listed κ (sA T sz e none 0 ([] : List α) :: H)) : GD P ops Q n d F fuel listed κ H := GD.mem (fun h => Sat.nilS T sz e h) h
theorem GD.unsafeStr {T U e s i fuel : Nat} {ops : List Oper} {listed listed' : List Bool} {x y : Operand} {b off cp : Nat} {l : List UInt8} {R : List Assn} {ty : TypeId} {pos : String} {after : Array Edge}
    (hi : ops[i]? = some ⟨some s, .call { callee := .builtin .unsafeString, args := #[x, y], argTypes := #[T, U] }, ty, pos, after, none⟩) (hm : only ops listed i = true) (hl' : setL listed i = some listed') (hx : ev κ x = some (.pointer (some ⟨b, off, none⟩))) (hy : ev κ y = some (.int .i64 l.length)) (hT : ptrT P T = some e) (he : P.cellsOf e = 1) (hl : l ≠ []) (hb : l.length ≤ 9223372036854775807) (hp : Pick H (sA e 1 by8 (some ⟨b, off, none⟩) cp l) R) (hs : Nat.blt s n = true)
    (kk : GD P ops Q n d F fuel listed' ((s, str l) :: κ) R) : GD P ops Q n d F (fuel + 1) listed κ H :=
  GD.acts hi hm hl' (Acts.unsafeStr hx hy hT he hl hb hp) hs (fun v _ h => by obtain ⟨h1, rfl⟩ := h; cases h1; exact kk) (fun _ h => by cases h.1)

theorem Sat.sAf {α : Type} {T sz : Nat} {e : α → List Value} {p : Option Addr} {c : Nat} {l : List α} {R : List Assn} {w : World} (hp : Pick H (sA T sz e p c l) R) (hs : Sat H F w) : (c ≠ 0 → ∀ a, p = some a → a.spot = none) ∧ (p = none → l = [] ∧ c = 0) ∧ l.length ≤ c := by
  obtain ⟨G, _, hA, _, _⟩ := (hs.pick hp).has
  exact sA_addr hA
/-- What a slice's memory says of its address. -/
theorem Tr.sAf {α : Type} {T sz : Nat} {e : α → List Value} {p : Option Addr} {cp : Nat} {l : List α} {R : List Assn} (hp : Pick H (sA T sz e p cp l) R) (k : (cp ≠ 0 → ∀ a, p = some a → a.spot = none) ∧ (p = none → l = [] ∧ cp = 0) ∧ l.length ≤ cp → Tr P c Q n d F κ H) : Tr P c Q n d F κ H :=
  fun a w hf hs => k (hs.sAf hp) a w hf hs
theorem sA_ne {α : Type} {p : Option Addr} {cp : Nat} {l : List α} (h : (cp ≠ 0 → ∀ a, p = some a → a.spot = none) ∧ (p = none → l = [] ∧ cp = 0) ∧ l.length ≤ cp) (hl : l ≠ []) : (∃ b off, p = some ⟨b, off, none⟩) ∧ cp ≠ 0 := by
  obtain ⟨h1, h2, h3⟩ := h
  cases p with
  | none => exact absurd (h2 rfl).1 hl
  | some a =>
    obtain ⟨b, off, sp⟩ := a
    have h0 : cp ≠ 0 := fun h => by
      subst h
      exact hl (List.eq_nil_of_length_eq_zero (by omega))
    have := h1 h0 _ rfl
    simp only at this; subst this
    exact ⟨⟨b, off, rfl⟩, h0⟩

end Go.Sl
/- The engine, part 15: bits of numbers. -/
namespace Go.Sl
open Go
theorem ofInt_nat (a : Nat) (h : a < 2 ^ 64) : (BitVec.ofInt 64 (a : Int)).toNat = a := by
  rw [BitVec.ofInt_natCast, BitVec.toNat_ofNat, Nat.mod_eq_of_lt h]
theorem wrap_nat (a : Nat) (h : a < 2 ^ 63) : IntKind.i64.wrap (a : Int) = a := wrap_i64 (by omega)
theorem bits_and (a b : Nat) (ha : a < 2 ^ 63) (hb : b < 2 ^ 63) : bits .and .i64 (a : Int) (b : Int) = ((a &&& b : Nat) : Int) := by
  have h : ((BitVec.ofInt 64 (a : Int)) &&& (BitVec.ofInt 64 (b : Int))).toNat = a &&& b := by
    rw [BitVec.toNat_and, ofInt_nat a (by omega), ofInt_nat b (by omega)]
  show IntKind.i64.wrap ((((BitVec.ofInt 64 (a : Int)) &&& (BitVec.ofInt 64 (b : Int))).toNat : Nat) : Int) = _
  rw [h, wrap_nat _ (Nat.lt_of_le_of_lt Nat.and_le_left ha)]
theorem bits_or (a b : Nat) (ha : a < 2 ^ 63) (hb : b < 2 ^ 63) : bits .or .i64 (a : Int) (b : Int) = ((a ||| b : Nat) : Int) := by
  have h : ((BitVec.ofInt 64 (a : Int)) ||| (BitVec.ofInt 64 (b : Int))).toNat = a ||| b := by
    rw [BitVec.toNat_or, ofInt_nat a (by omega), ofInt_nat b (by omega)]
  show IntKind.i64.wrap ((((BitVec.ofInt 64 (a : Int)) ||| (BitVec.ofInt 64 (b : Int))).toNat : Nat) : Int) = _
  rw [h, wrap_nat _ (Nat.or_lt_two_pow ha hb)]
theorem bits_xor (a b : Nat) (ha : a < 2 ^ 63) (hb : b < 2 ^ 63) : bits .xor .i64 (a : Int) (b : Int) = ((a ^^^ b : Nat) : Int) := by
  have h : ((BitVec.ofInt 64 (a : Int)) ^^^ (BitVec.ofInt 64 (b : Int))).toNat = a ^^^ b := by
    rw [BitVec.toNat_xor, ofInt_nat a (by omega), ofInt_nat b (by omega)]
  show IntKind.i64.wrap ((((BitVec.ofInt 64 (a : Int)) ^^^ (BitVec.ofInt 64 (b : Int))).toNat : Nat) : Int) = _
  rw [h, wrap_nat _ (Nat.xor_lt_two_pow ha hb)]
/-- m & (2^k - 1), for whatever m. -/
theorem bits_mask (m : Int) (k : Nat) (hk : k < 63) : bits .and .i64 m ((2 ^ k - 1 : Nat) : Int) = m % (2 ^ k : Nat) := by
  have hp : 2 ^ k - 1 < 2 ^ 64 := by
    have := Nat.pow_lt_pow_right (a := 2) (by omega) (show k < 64 by omega)
    omega
  have h : ((BitVec.ofInt 64 m) &&& (BitVec.ofInt 64 ((2 ^ k - 1 : Nat) : Int))).toNat = (m % (2 ^ 64 : Nat)).toNat % 2 ^ k := by
    rw [BitVec.toNat_and, ofInt_nat _ hp, Nat.and_two_pow_sub_one_eq_mod, BitVec.toNat_ofInt]
  show IntKind.i64.wrap ((((BitVec.ofInt 64 m) &&& (BitVec.ofInt 64 ((2 ^ k - 1 : Nat) : Int))).toNat : Nat) : Int) = _
  rw [h, wrap_nat _ (Nat.lt_trans (Nat.mod_lt _ (Nat.two_pow_pos k)) (Nat.pow_lt_pow_right (by omega) hk))]
  have h1 : 0 ≤ m % ((2 ^ 64 : Nat) : Int) := Int.emod_nonneg _ (by decide)
  rw [Int.natCast_emod, Int.toNat_of_nonneg h1]
  have hd : ((2 ^ k : Nat) : Int) ∣ ((2 ^ 64 : Nat) : Int) := Int.natCast_dvd_natCast.2 (Nat.pow_dvd_pow 2 (by omega))
  exact Int.emod_emod_of_dvd m hd
theorem bits_255 (m : Int) : bits .and .i64 m 255 = m % 256 := bits_mask m 8 (by decide)
/-- a shifted by 8 bits, a byte put in. -/
theorem bits_or_byte (a b : Nat) (ha : a < 2 ^ 55) (hb : b < 256) : bits .or .i64 ((a * 256 : Nat) : Int) (b : Int) = ((a * 256 + b : Nat) : Int) := by
  rw [bits_or _ _ (by omega) (by omega)]
  congr 1
  have := Nat.shiftLeft_add_eq_or_of_lt (i := 8) (show b < 2 ^ 8 by omega) a
  rw [Nat.shiftLeft_eq] at this
  exact this.symm
theorem wrap_u8 (z : Int) : IntKind.u8.wrap z = z % 256 := by
  simp [IntKind.wrap, IntKind.bits, IntKind.signed]
theorem wrap_u8_toNat (z : Int) : ∃ x : UInt8, (x.toNat : Int) = IntKind.u8.wrap z ∧ x = UInt8.ofNat (z % 256).toNat := by
  refine ⟨UInt8.ofNat (z % 256).toNat, ?_, rfl⟩
  rw [wrap_u8]
  have h0 : 0 ≤ z % 256 := Int.emod_nonneg _ (by decide)
  have h1 : z % 256 < 256 := Int.emod_lt_of_pos _ (by decide)
  rw [UInt8.toNat_ofNat', Nat.mod_eq_of_lt (by omega)]
  omega
variable {P : Program} {n : Nat} {d : List Deferred} {F : Frm} {κ : List (Nat × Value)} {H : List Assn} {Q : Exit → Act → World → Prop}
theorem GD.as {ops : List Oper} {fuel : Nat} {listed : List Bool} (s : Nat) {v : Value} (u : Value) (hl : lk κ s = some v) (e : v = u) (h : GD P ops Q n d F fuel listed ((s, u) :: κ) H) : GD P ops Q n d F fuel listed κ H := fun a w hf hs => h a w (hf.as hl e) hs
theorem get_lt {α : Type} {l : List α} {i : Nat} (h : i < l.length) : ∃ a, l[i]? = some a := ⟨_, List.getElem?_eq_getElem h⟩
theorem take_succ' {α : Type} {l : List α} {i : Nat} {a : α} (h : l[i]? = some a) : l.take (i + 1) = l.take i ++ [a] := by rw [List.take_add_one, h]; rfl

theorem Sat.ptsA {α : Type} {T sz : Nat} {e : α → List Value} {l : List α} {b : Nat} {us : List Value} {R : List Assn} {w : World} (hE : El e sz) (hu : flat e l = us) (hp : Pick H (pt b (cl us T)) R) (hs : Sat H F w) : Sat (sA T sz e (some ⟨b, 0, none⟩) l.length l :: R) F w :=
  (hs.pick hp).imp fun _ h => pt_sA hE hu h

/-! where two ways meet -/
def JoinQ {α : Type} (I : α → List (Nat × Value)) (κc : List (Nat × Value)) (HI : α → List Assn) (Hc : List Assn) (φ : α → Prop) (n : Nat) (d : List Deferred) (F : Frm) (Q : Exit → Act → World → Prop) : Exit → Act → World → Prop
  | .normal, a, w => ∃ y, φ y ∧ Fr n (I y ++ κc) d a ∧ Sat (HI y ++ Hc) F w
  | e, a, w => Q e a w
theorem Tr.join {α : Type} {x y z : Code} (I : α → List (Nat × Value)) (κc : List (Nat × Value)) (HI : α → List Assn) (Hc : List Assn) (φ : α → Prop) (_hc : lks κ κc) (_hH : Take H Hc)
    (h1 : Tr P x (Exit.then (fun a w => Code.wp P y (JoinQ I κc HI Hc φ n d F Q) a w) (JoinQ I κc HI Hc φ n d F Q)) n d F κ H)
    (h2 : ∀ g, φ g → Tr P z Q n d F (I g ++ κc) (HI g ++ Hc)) : Tr P (.seq x (.seq y z)) Q n d F κ H := fun a w hf hs => by
  refine wp_seq ?_
  refine wp_mono (h1 a w hf hs) (fun e a w h => ?_)
  cases e with
  | normal =>
    refine wp_seq ?_
    refine wp_mono h (fun e a w h => ?_)
    cases e with
    | normal => obtain ⟨g, hg, h3, h4⟩ := h; exact h2 g hg a w h3 h4
    | _ => exact h
  | _ => exact h
theorem Tr.join1 {α : Type} {x z : Code} (I : α → List (Nat × Value)) (κc : List (Nat × Value)) (HI : α → List Assn) (Hc : List Assn) (φ : α → Prop) (_hc : lks κ κc) (_hH : Take H Hc)
    (h1 : Tr P x (JoinQ I κc HI Hc φ n d F Q) n d F κ H)
    (h2 : ∀ g, φ g → Tr P z Q n d F (I g ++ κc) (HI g ++ Hc)) : Tr P (.seq x z) Q n d F κ H := fun a w hf hs => by
  refine wp_seq ?_
  refine wp_mono (h1 a w hf hs) (fun e a w h => ?_)
  cases e with
  | normal => obtain ⟨g, hg, h3, h4⟩ := h; exact h2 g hg a w h3 h4
  | _ => exact h
theorem Post.joinA {α : Type} {I : α → List (Nat × Value)} {κc : List (Nat × Value)} {HI : α → List Assn} {Hc : List Assn} {φ : α → Prop} (y : α)
    (h0 : φ y) (hκ : lks κ (I y)) (hc : lks κ κc) (hH : Take H (HI y ++ Hc)) : Post (JoinQ I κc HI Hc φ n d F Q) .normal n d F κ H :=
  fun _ _ hf hs => ⟨y, h0, hf.less (fun s v h => by
    rcases lk_append _ _ s v h with h1 | ⟨_, h1⟩
    · exact hκ.all s v h1
    · exact hc.all s v h1), hs.take hH⟩
theorem Post.joinR {α : Type} {I : α → List (Nat × Value)} {κc : List (Nat × Value)} {HI : α → List Assn} {Hc : List Assn} {φ : α → Prop} (h : Post Q .ret n d F κ H) : Post (JoinQ I κc HI Hc φ n d F Q) .ret n d F κ H := h
theorem Post.joinE {α : Type} {I : α → List (Nat × Value)} {κc : List (Nat × Value)} {HI : α → List Assn} {Hc : List Assn} {φ : α → Prop} {i : Nat} (h : Post Q (.exit i) n d F κ H) : Post (JoinQ I κc HI Hc φ n d F Q) (.exit i) n d F κ H := h

theorem Frm.has_imp {A B : Assn} (h : F.has A) (k : ∀ p, A p → B p) : F.has B := by
  obtain ⟨p, h1, h2⟩ := h; exact ⟨p, k p h1, h2⟩
theorem Frm.has_take {α : Type} {T sz cp j : Nat} {e : α → List Value} {p : Option Addr} {l : List α} (h : F.has (sA T sz e p cp l)) : F.has (sA T sz e p cp (l.take j)) := Frm.has_imp h fun _ h => sA_to h

end Go.Sl
/- The engine, part 16: many pieces of memory as one. -/
namespace Go.Sl
open Go
variable {P : Program} {n : Nat} {d : List Deferred} {F : Frm} {κ : List (Nat × Value)} {H : List Assn} {Q : Exit → Act → World → Prop}

/-- Pieces of memory, each apart from the others. -/
def sep : List Assn → Assn
  | [] => fun _ => True
  | A :: l => fun h => ∃ p q, A p ∧ sep l q ∧ PH.Disj p q ∧ PH.le p h ∧ PH.le q h

theorem PH.Disj.mono {p q h : PH} (hd : PH.Disj h q) (hl : PH.le p h) : PH.Disj p q := fun b => by
  rcases hd b with h1 | h1
  · left
    cases hp : p b with
    | none => rfl
    | some o => rw [hl b o hp] at h1; cases h1
  · exact .inr h1

theorem Sat.unsep {A : Assn} {l : List Assn} {w : World} (h : Sat (sep (A :: l) :: H) F w) : Sat (A :: sep l :: H) F w := by
  obtain ⟨x, ⟨p, q, h1, h2, h3, h4, h5⟩, hd, hs⟩ := h
  refine ⟨p, h1, hd.mono h4, q, h2, ?_, hs.weaken ?_⟩
  · intro b
    rcases h3 b with hp | hq
    · rcases (PH.Disj.mono hd h5) b with h6 | h6
      · exact .inl h6
      · right; simp [Frm.add, hp, h6]
    · exact .inl hq
  · refine ⟨fun b o hb => ?_, rfl, rfl, rfl⟩
    simp only [Frm.add] at hb ⊢
    cases hF : F.h b with
    | some v => simp [hF] at hb; simp [hb]
    | none =>
      simp only [hF, Option.none_or] at hb ⊢
      cases hp : p b with
      | some v => rw [hp] at hb; simp at hb; subst hb; exact h4 b _ hp
      | none => rw [hp] at hb; simp at hb; exact h5 b _ hb
theorem Sat.sepc {A : Assn} {l : List Assn} {w : World} (h : Sat (A :: sep l :: H) F w) : Sat (sep (A :: l) :: H) F w := by
  obtain ⟨p, h1, hd, q, h2, hd2, hs⟩ := h
  have hpq : PH.Disj p q := fun b => by
    rcases hd2 b with h | h
    · exact .inr h
    · left
      simp only [Frm.add] at h
      cases hp : p b with
      | none => rfl
      | some o => rw [hp] at h; simp at h
  refine ⟨fun b => (p b).or (q b), ⟨p, q, h1, h2, hpq, fun b o hb => by simp [hb], fun b o hb => ?_⟩, fun b => ?_, hs.weaken ⟨fun b o hb => ?_, rfl, rfl, rfl⟩⟩
  · rcases hpq b with h | h
    · simp [h, hb]
    · rw [h] at hb; cases hb
  · cases hF : F.h b with
    | none => exact .inr rfl
    | some v =>
      left
      rcases hd b with h | h
      · rcases hd2 b with h' | h'
        · simp [h, h']
        · simp [Frm.add, hF] at h'
      · rw [hF] at h; cases h
  · simp only [Frm.add] at hb ⊢
    rw [Option.or_assoc]
    exact hb
theorem Sat.sep_nil {w : World} (h : Sat H F w) : Sat (sep [] :: H) F w :=
  ⟨fun _ => none, trivial, fun _ => .inl rfl, h.weaken ⟨fun b o hb => by simpa [Frm.add] using hb, rfl, rfl, rfl⟩⟩
theorem Sat.sep_snoc {A : Assn} : ∀ {l : List Assn} {F : Frm} {w : World}, Sat (A :: sep l :: H) F w → Sat (sep (l ++ [A]) :: H) F w
  | [], _, _, h => by
    have : Sat (A :: sep [] :: H) _ _ := h
    exact this.sepc
  | B :: l, F, w, h => by
    have h1 : Sat (sep (B :: l) :: A :: H) F w := h.swap
    have h2 : Sat (B :: sep l :: A :: H) F w := h1.unsep
    have h3 : Sat (B :: sep (l ++ [A]) :: H) F w := h2.under fun _ h => Sat.sep_snoc h.swap
    exact h3.sepc
theorem Frm.has_sep {A : Assn} {l : List Assn} (h : F.has (sep (A :: l))) : F.has A ∧ F.has (sep l) := by
  obtain ⟨x, ⟨p, q, h1, h2, _, h4, h5⟩, hl⟩ := h
  exact ⟨⟨p, h1, fun b o hb => hl b o (h4 b o hb)⟩, ⟨q, h2, fun b o hb => hl b o (h5 b o hb)⟩⟩
theorem Frm.has_mem {A : Assn} : ∀ {l : List Assn}, F.has (sep l) → A ∈ l → F.has A
  | [], _, h => by cases h
  | B :: l, h, hm => by
    obtain ⟨h1, h2⟩ := Frm.has_sep h
    cases hm with
    | head => exact h1
    | tail _ hm => exact Frm.has_mem h2 hm
/-- A piece joins the many, at the places of H. -/
theorem Sat.sepIn {A : Assn} {l : List Assn} {R R2 : List Assn} {w : World} (h1 : Pick H A R) (h2 : Pick R (sep l) R2) (h : Sat H F w) : Sat (sep (l ++ [A]) :: R2) F w :=
  Sat.sep_snoc ((h.pick h1).under fun _ h => h.pick h2)
theorem Sat.sepMap {α : Type} {f : α → Assn} {a : α} {l : List α} {R R2 : List Assn} {w : World} (h1 : Pick H (f a) R) (h2 : Pick R (sep (l.map f)) R2) (h : Sat H F w) : Sat (sep ((l ++ [a]).map f) :: R2) F w := by
  rw [List.map_append]; exact Sat.sepIn h1 h2 h

end Go.Sl
/- The engine, part 17: structs of numbers held against each other. -/
namespace Go.Sl
open Go
variable {P : Program} {n : Nat} {d : List Deferred} {F : Frm} {κ : List (Nat × Value)} {H : List Assn} {Q : Exit → Act → World → Prop}

def eqF (P : Program) (g : Nat → Option Nat) : List Field → Nat → Option Nat
  | [], off => some off
  | f :: r, off => match g f.type, lyt P f.type with
    | some k, some (ag, m) => bif !(f.name == "_") && Nat.beq f.offset off && Nat.beq k m && (ag || Nat.beq k 1) then eqF P g r (off + k) else none
    | _, _ => none
/-- A number, or a struct of numbers: how many. -/
def eqS (P : Program) : Nat → Nat → Option Nat
  | 0, _ => none
  | d + 1, T => match P.underlying T with
    | some (.int _) => some 1
    | some (.struct fs) => bif P.stoodInHeld T then none else eqF P (eqS P d) fs.toList 0
    | _ => none
def sameK : List Value → List Value → Bool
  | .int k _ :: r, .int k' _ :: r' => (k == k') && sameK r r'
  | [], [] => true
  | _, _ => false
def eqI : List Value → List Value → Bool
  | .int _ a :: r, .int _ b :: r' => (a == b) && eqI r r'
  | [], [] => true
  | _, _ => false
theorem eqI_append : ∀ (a a' b b' : List Value), a.length = a'.length → sameK a a' = true → eqI (a ++ b) (a' ++ b') = (eqI a a' && eqI b b')
  | [], [], b, b', _, _ => by simp [eqI]
  | [], _ :: _, _, _, h, _ => by simp at h
  | _ :: _, [], _, _, h, _ => by simp at h
  | x :: a, y :: a', b, b', h, hk => by
    cases x <;> cases y <;> simp only [sameK, Bool.false_eq_true] at hk
    simp only [Bool.and_eq_true] at hk
    simp only [List.cons_append, eqI]
    rw [eqI_append a a' b b' (by simpa using h) hk.2, Bool.and_assoc]
theorem sameK_drop : ∀ (k : Nat) (a a' : List Value), sameK a a' = true → sameK (a.drop k) (a'.drop k) = true
  | 0, _, _, h => h
  | k + 1, [], [], _ => by simp [sameK]
  | k + 1, x :: a, y :: a', h => by
    cases x <;> cases y <;> simp only [sameK, Bool.false_eq_true] at h
    simp only [Bool.and_eq_true] at h
    simpa using sameK_drop k a a' h.2
  | k + 1, [], _ :: _, h => by simp [sameK] at h
  | k + 1, x :: _, [], h => by cases x <;> simp [sameK] at h
theorem sameK_take : ∀ (k : Nat) (a a' : List Value), sameK a a' = true → sameK (a.take k) (a'.take k) = true
  | 0, _, _, _ => by simp [sameK]
  | k + 1, [], [], _ => by simp [sameK]
  | k + 1, x :: a, y :: a', h => by
    cases x <;> cases y <;> simp only [sameK, Bool.false_eq_true] at h
    simp only [Bool.and_eq_true] at h
    simp only [List.take_succ_cons, sameK, Bool.and_eq_true]
    exact ⟨h.1, sameK_take k a a' h.2⟩
  | k + 1, [], _ :: _, h => by simp [sameK] at h
  | k + 1, x :: _, [], h => by cases x <;> simp [sameK] at h

/-- A value of these cells. -/
def mkV (ag : Bool) (l : List Value) : Value := if ag then .agg l.toArray else l.headD undef

theorem run_part {T : TypeId} {ag : Bool} {m off : Nat} {xs : List Value} (hT : lyt P T = some (ag, m)) (hm : ag = true ∨ m = 1) (ho : off + m ≤ xs.length) (w : World) :
    (part T xs.toArray off).run P w = .ok (mkV ag ((xs.drop off).take m)) w := by
  simp only [part]
  rw [Sem.run_bind, run_isAgg hT]
  simp only [Result.andThen]
  cases ag with
  | true =>
    simp only [if_true]
    rw [Sem.run_bind, run_sizeOf hT]
    simp [Result.andThen, mkV]
  | false =>
    rcases hm with hm | rfl
    · cases hm
    · have : xs[off]? = some (xs[off]'(by omega)) := List.getElem?_eq_getElem (by omega)
      simp only [Bool.false_eq_true, if_false, List.getElem?_toArray, this, Sem.run_pure]
      have h2 : xs.drop off = xs[off] :: xs.drop (off + 1) := List.drop_eq_getElem_cons (by omega)
      rw [h2]
      rfl

theorem eqS_ok : ∀ (d T k : Nat), eqS P d T = some k → ∀ (ag : Bool), lyt P T = some (ag, k) → ∀ (xs ys : List Value), xs.length = k → ys.length = k → sameK xs ys = true → ∀ (e : Nat) (w : World), d ≤ e →
    (Op.equalIn e T (mkV ag xs) (mkV ag ys)).run P w = .ok (eqI xs ys) w
  | 0, _, _, h => by simp [eqS] at h
  | d + 1, T, k, h => by
    intro ag hag xs ys hx hy hk e w he
    obtain ⟨e, rfl⟩ : ∃ e', e = e' + 1 := ⟨e - 1, by omega⟩
    simp only [eqS] at h
    split at h
    · rename_i kk hu
      cases h
      have hfalse : ag = false := by
        unfold lyt at hag; rw [hu] at hag
        cases hi : P.info? T with
        | none => simp [hi] at hag
        | some i => simp [hi] at hag; exact hag.1
      subst hfalse
      match xs, ys, hx, hy, hk with
      | [.int k1 a], [.int k2 b], _, _, hk =>
        simp only [sameK, Bool.and_eq_true] at hk
        have : k1 = k2 := by simpa using hk.1
        subst this
        simp only [mkV, Bool.false_eq_true, if_false, List.headD_cons]
        rw [run_equalIn_int w e T _ _ a b hu]
        simp [eqI]
    · rename_i fs hu
      cases hst : P.stoodInHeld T with
      | true => simp [hst] at h
      | false =>
        simp only [hst, cond_false] at h
        have htrue : ag = true := by
          unfold lyt at hag; rw [hu] at hag
          cases hi : P.info? T with
          | none => simp [hi] at hag
          | some i => simp [hi] at hag; exact hag.1
        subst htrue
        simp only [mkV, if_true]
        have hfo : P.fieldsOf T = fs := by unfold Program.fieldsOf; rw [hu]
        rw [run_equalIn_struct w e T _ _ (by rw [hfo]; exact hu) hst, hfo]
        have key : ∀ (l : List Field) (off : Nat), eqF P (eqS P d) l off = some k → off ≤ k → (Op.eqFields e xs.toArray ys.toArray l).run P w = .ok (eqI (xs.drop off) (ys.drop off)) w := by
          intro l
          induction l with
          | nil =>
            intro off h1 _
            simp only [eqF, Option.some.injEq] at h1
            subst h1
            rw [List.drop_of_length_le (by omega), List.drop_of_length_le (by omega)]
            simp [Op.eqFields, eqI]
          | cons f l ih =>
            intro off h1 _
            simp only [eqF] at h1
            split at h1
            · rename_i k1 ag1 m1 hg hl
              cases hb : (!(f.name == "_") && Nat.beq f.offset off && Nat.beq k1 m1 && (ag1 || Nat.beq k1 1)) with
              | false => simp [hb] at h1
              | true =>
                rw [hb, cond_true] at h1
                simp only [Bool.and_eq_true, Bool.not_eq_true', Bool.or_eq_true] at hb
                obtain ⟨⟨⟨hn, hof⟩, hkm⟩, hag1⟩ := hb
                have hof := Nat.eq_of_beq_eq_true hof
                have hkm := Nat.eq_of_beq_eq_true hkm
                subst hkm
                have hle : off + k1 ≤ k := by
                  have : ∀ (l : List Field) (o : Nat), eqF P (eqS P d) l o = some k → o ≤ k := by
                    intro l
                    induction l with
                    | nil => intro o h; simp only [eqF, Option.some.injEq] at h; omega
                    | cons f l ih =>
                      intro o h
                      simp only [eqF] at h
                      split at h
                      · rename_i k2 ag2 m2 _ _
                        cases hb : (!(f.name == "_") && Nat.beq f.offset o && Nat.beq k2 m2 && (ag2 || Nat.beq k2 1)) with
                        | false => simp [hb] at h
                        | true => rw [hb, cond_true] at h; have := ih _ h; omega
                      · cases h
                  exact this l _ h1
                have hm1 : ag1 = true ∨ k1 = 1 := hag1.imp id Nat.eq_of_beq_eq_true
                have hn' : f.name ≠ "_" := by simpa using hn
                simp only [Op.eqFields, if_pos hn', hof]
                rw [Sem.run_bind, run_part hl hm1 (by omega)]
                simp only [Result.andThen]
                rw [Sem.run_bind, run_part hl hm1 (by omega)]
                simp only [Result.andThen]
                have := eqS_ok d f.type k1 hg ag1 hl ((xs.drop off).take k1) ((ys.drop off).take k1) (by simp; omega) (by simp; omega) (sameK_take _ _ _ (sameK_drop _ _ _ hk)) e w (by omega)
                rw [Sem.run_bind, this]
                simp only [Result.andThen]
                have hsp : eqI (xs.drop off) (ys.drop off) = (eqI ((xs.drop off).take k1) ((ys.drop off).take k1) && eqI (xs.drop (off + k1)) (ys.drop (off + k1))) := by
                  rw [← eqI_append _ _ _ _ (by simp; omega) (sameK_take _ _ _ (sameK_drop _ _ _ hk))]
                  congr 1
                  · rw [← List.drop_drop, List.take_append_drop]
                  · rw [← List.drop_drop, List.take_append_drop]
                rw [hsp]
                cases eqI ((xs.drop off).take k1) ((ys.drop off).take k1) with
                | true => simp only [Bool.not_true, Bool.false_eq_true, if_false, Bool.true_and]; exact ih _ h1 hle
                | false => simp
            · cases h1
        have := key fs.toList 0 h (Nat.zero_le _)
        simpa using this
    · cases h

theorem RO.eqlS {T k : Nat} {u : TypeId} {x y : Operand} {xs ys : List Value} (hx : ev κ x = some (.agg xs.toArray)) (hy : ev κ y = some (.agg ys.toArray)) (hT : eqS P 8 T = some k) (hl : lyt P T = some (true, k)) (hg : P.eqGuardType P.depth T = false) (hxl : xs.length = k) (hyl : ys.length = k) (hk : sameK xs ys = true) : RO P κ F (.binOp .eql T x y u) (.bool (eqI xs ys)) := by
  intro n' d' a w dst ty pos after guard hf hs
  have ex := hf.ev hx; have ey := hf.ev hy
  have h1 := eqS_ok (P := P) 8 T k hT true hl xs ys hxl hyl hk 10000 w (by decide)
  simp only [mkV, if_true] at h1
  generalize a.eval = ρ at ex ey ⊢
  simp only [execOp, ex, ey]
  rw [Sem.run_bind]
  simp only [Sem.run_bind]
  rw [run_eqGuard_agg w .eql T x y _ _ hg]
  simp only [Result.andThen]
  rw [run_eql_struct, h1]
  rfl
theorem RO.neqS {T k : Nat} {u : TypeId} {x y : Operand} {xs ys : List Value} (hx : ev κ x = some (.agg xs.toArray)) (hy : ev κ y = some (.agg ys.toArray)) (hT : eqS P 8 T = some k) (hl : lyt P T = some (true, k)) (hg : P.eqGuardType P.depth T = false) (hxl : xs.length = k) (hyl : ys.length = k) (hk : sameK xs ys = true) : RO P κ F (.binOp .neq T x y u) (.bool (!eqI xs ys)) := by
  intro n' d' a w dst ty pos after guard hf hs
  have ex := hf.ev hx; have ey := hf.ev hy
  have h1 := eqS_ok (P := P) 8 T k hT true hl xs ys hxl hyl hk 10000 w (by decide)
  simp only [mkV, if_true] at h1
  generalize a.eval = ρ at ex ey ⊢
  simp only [execOp, ex, ey]
  rw [Sem.run_bind]
  simp only [Sem.run_bind]
  rw [run_eqGuard_agg w .neq T x y _ _ hg]
  simp only [Result.andThen]
  rw [run_neq_struct, h1]
  rfl
end Go.Sl
/- The engine, part 18: copy between slices of one length. -/
namespace Go.Sl
open Go
variable {P : Program} {n : Nat} {d : List Deferred} {F : Frm} {κ : List (Nat × Value)} {H : List Assn} {Q : Exit → Act → World → Prop}
variable {ops : Array Oper} {rest : List Oper}

theorem updl_some : ∀ (cs : List Value) (k : Nat) (us : List Value), k + us.length ≤ cs.length → ∃ r, updl cs k us = some r := by
  intro cs
  induction cs with
  | nil => intro k us h; simp at h; obtain ⟨rfl, h⟩ := h; cases us with | nil => exact ⟨_, rfl⟩ | cons => simp at h
  | cons x cs ih =>
    intro k us h
    cases k with
    | zero =>
      cases us with
      | nil => exact ⟨_, rfl⟩
      | cons u us => obtain ⟨r, hr⟩ := ih 0 us (by simp at h ⊢; omega); exact ⟨u :: r, by simp [updl, hr]⟩
    | succ k => obtain ⟨r, hr⟩ := ih k us (by simp at h; omega); exact ⟨x :: r, by cases us <;> simp [updl, hr]⟩

theorem Sat.rowOf {α : Type} {T sz : Nat} {en : α → List Value} {p : Option Addr} {c : Nat} {l : List α} {R : List Assn} {w : World} (h : Sat (sA T sz en p c l :: R) F w) :
    (l = [] ∧ c = 0) ∨ ∃ b off cs fr, p = some ⟨b, off, none⟩ ∧ nfz fr off (off + c * sz) ∧ off + c * sz ≤ cs.length ∧ l.length ≤ c ∧ (∀ i a, l[i]? = some a → subl cs (off + i * sz) sz = some (en a)) ∧ Sat (pt b (clf cs T fr) :: R) F w := by
  obtain ⟨q, hq, hd, hs⟩ := h
  rcases hq with h0 | ⟨b, off, cs, fr, h1, h2, hz, h3, h4, h5⟩
  · exact .inl h0
  · exact .inr ⟨b, off, cs, fr, h1, hz, h3, h4, h5, q, h2, hd, hs⟩

theorem run_copy {α : Type} {T e s by_ : Nat} {z : List Value} {sz : Nat} {en : α → List Value} {p : Option Addr} {c : Nat} {l xs : List α} {y : Value} {ats : Array TypeId} {ty : TypeId} {w : World} {R : List Assn}
    (hT : apt P T = some (e, s, by_, z)) (hsz : s = sz) (hE : El en sz) (hy : Reads P sz xs.length y (flat en xs) w) (hty : ats = #[T, T]) (hl : xs.length = l.length) (hs : Sat (sA e sz en p c l :: R) F w) :
    ∃ w', (Builtin.copy_ ats ty #[.slice p l.length c, y]).run P w = .ok (.int .i64 l.length) w' ∧ Sat (sA e sz en p c xs :: R) F w' := by
  subst hsz
  have A := apt_ok hT
  have hund : ∀ w, (underlying T).run P w = .ok (.slice e) w := run_underlying A.under
  obtain ⟨hlen, hcells⟩ := hy
  have hc0 := hcells w.drawn
  have hw : ({ w with drawn := w.drawn } : World) = w := rfl
  rw [hw] at hc0
  rcases hs.rowOf with ⟨rfl, rfl⟩ | ⟨b, off, cs, fr, rfl, hz, h3, h4, h5, hs2⟩
  · have hx0 : xs = [] := List.eq_nil_of_length_eq_zero (by simpa using hl)
    subst hx0
    refine ⟨w, ?_, hs⟩
    simp only [List.length_nil] at hlen hc0
    cases p <;> simp [Builtin.copy_, hty, hund, A.size, hlen, hc0, goInt, flat, storeCells]
  · have hb := hs2.pt_head
    have hfl := flat_len hE.len xs
    have hmul : l.length * s ≤ c * s := Nat.mul_le_mul_right _ h4
    obtain ⟨cs', hcs'⟩ := updl_some cs off (flat en xs) (by rw [hfl, hl]; omega)
    obtain ⟨c1, c2, c3, c4⟩ := updl_spec hcs'
    obtain ⟨w', hr, hb', ho', e1, e2, e3⟩ := run_storeCells (P := P) (flat en xs) 0 cs cs' w (k := off) (flat_one hE.one xs) hb (by simpa using hcs') (hz.mono (by omega) (by rw [hfl, hl]; omega))
    refine ⟨w', ?_, (hs2.put hb' ho' e1 e2 e3).imp fun q hq => ?_⟩
    · have hc1 : (Builtin.firstCells s l.length y).run P w = .ok (flat en xs).toArray w := by rw [← hl]; exact hc0
      simp [Builtin.copy_, hty, hund, A.size, hlen, hc1, hr, goInt, hl]
    · refine .inr ⟨b, off, cs', fr, rfl, hq, hz, by omega, by omega, fun j a hj => ?_⟩
      have hjl : j < xs.length := by
        rcases Nat.lt_or_ge j xs.length with h | h
        · exact h
        · rw [List.getElem?_eq_none h] at hj; cases hj
      have hmulj : j * s + s ≤ xs.length * s := by
        have : (j + 1) * s ≤ xs.length * s := Nat.mul_le_mul_right _ (by omega)
        rw [Nat.add_mul] at this; omega
      refine subl_mk (hE.len a) (by rw [hl] at hmulj; omega) (fun t ht => ?_)
      have hg := flat_get hE.len xs j a t hj ht
      have : cs'[off + (j * s + t)]? = (flat en xs)[j * s + t]? := c3 (j * s + t) (by rw [hfl]; omega)
      rw [← hg, ← this]; congr 1; omega

theorem Acts.copy {α : Type} {T e s by_ sz cp : Nat} {z : List Value} {en : α → List Value} {p : Option Addr} {l xs : List α} {x y : Operand} {yv : Value} {R : List Assn} (hE : El en sz)
    (hx : ev κ x = some (.slice p l.length cp)) (hy : ev κ y = some yv) (hT : apt P T = some (e, s, by_, z)) (hs : s = sz) (hp : Pick H (sA e sz en p cp l) R) (hl : xs.length = l.length)
    (hr : ∀ w, Sat H F w → Reads P sz xs.length yv (flat en xs) w) :
    Acts P κ H F (.call { callee := .builtin .copy, args := #[x, y], argTypes := #[T, T] }) (fun v K => v = some (.int .i64 l.length) ∧ K = sA e sz en p cp xs :: R) := by
  intro n' d' a w dst ty pos after guard hf hsat
  obtain ⟨w', h1, h2⟩ := run_copy (P := P) (ats := #[T, T]) (ty := ty) hT hs hE (hr w hsat) rfl hl (hsat.pick hp)
  refine ⟨_, _, w', _, ⟨rfl, rfl⟩, h2, .inr rfl, .inl ?_⟩
  have ex := hf.ev hx; have ey := hf.ev hy
  generalize a.eval = ρ at ex ey ⊢
  have exy : #[x, y].map ρ = #[.slice p l.length cp, yv] := by simp [ex, ey]
  simp only [execOp, resolve, exy, Sem.run_bind, Sem.run_pure, Result.andThen, invoke, builtin]
  rw [h1]
theorem G.copyF {α : Type} {T T0 e s by_ sz cp c2 sl : Nat} {z : List Value} {en : α → List Value} {p q : Option Addr} {l m : List α} {x y : Operand} {R : List Assn} {ty : TypeId} {pos : String} {after : Array Edge} (hE : El en sz)
    (hx : ev κ x = some (.slice p l.length cp)) (hy : ev κ y = some (.slice q m.length c2)) (hT : apt P T = some (e, s, by_, z)) (hs : s = sz) (hp : Pick H (sA e sz en p cp l) R) (hl : m.length = l.length)
    (hq : F.has (sA T0 sz en q c2 m)) (hsl : Nat.blt sl n = true)
    (k : G P ops Q n d F rest ((sl, .int .i64 l.length) :: κ) (sA e sz en p cp m :: R)) :
    G P ops Q n d F (⟨some sl, .call { callee := .builtin .copy, args := #[x, y], argTypes := #[T, T] }, ty, pos, after, none⟩ :: rest) κ H :=
  G.acts (Acts.copy hE hx hy hT hs hp hl (fun w hw => Reads.sA hE hq hw.inn)) hsl (fun _ _ ⟨h1, h2⟩ => by cases h1; subst h2; exact k) (fun _ ⟨h, _⟩ => by cases h)
theorem G.copyH {α : Type} {T T0 e s by_ sz cp c2 sl : Nat} {z : List Value} {en : α → List Value} {p q : Option Addr} {l m : List α} {x y : Operand} {R R0 : List Assn} {ty : TypeId} {pos : String} {after : Array Edge} (hE : El en sz)
    (hx : ev κ x = some (.slice p l.length cp)) (hy : ev κ y = some (.slice q m.length c2)) (hT : apt P T = some (e, s, by_, z)) (hs : s = sz) (hp : Pick H (sA e sz en p cp l) R) (hl : m.length = l.length)
    (hq : Pick H (sA T0 sz en q c2 m) R0) (hsl : Nat.blt sl n = true)
    (k : G P ops Q n d F rest ((sl, .int .i64 l.length) :: κ) (sA e sz en p cp m :: R)) :
    G P ops Q n d F (⟨some sl, .call { callee := .builtin .copy, args := #[x, y], argTypes := #[T, T] }, ty, pos, after, none⟩ :: rest) κ H :=
  G.acts (Acts.copy hE hx hy hT hs hp hl (fun w hw => by
    obtain ⟨G, _, hA, _, hin⟩ := (hw.pick hq).has
    exact Reads.sA hE hA hin)) hsl (fun _ _ ⟨h1, h2⟩ => by cases h1; subst h2; exact k) (fun _ ⟨h, _⟩ => by cases h)
theorem G.makeSlice {α : Type} {T e s by_ sz m sl : Nat} {z : List Value} {en : α → List Value} {x y : Operand} {ty : TypeId} {pos : String} {after : Array Edge} (z0 : α) (hE : El en sz) (hx : ev κ x = some (.int .i64 (m : Int))) (hy : ev κ y = some (.int .i64 (m : Int))) (hT : apt P T = some (e, s, by_, z)) (hs : s = sz) (hz0 : en z0 = z) (hm : m ≤ 1073741824) (hsl : Nat.blt sl n = true)
    (k : ∀ p, p ≠ none → G P ops Q n d F rest ((sl, .slice p (List.replicate m z0).length m) :: κ) (sA e sz en p m (List.replicate m z0) :: H)) :
    G P ops Q n d F (⟨some sl, .makeSlice T x y, ty, pos, after, none⟩ :: rest) κ H :=
  G.acts (Acts.makeSlice z0 hE hx hy hT hs hz0 hm) hsl (fun _ _ ⟨p, h0, h1, h2⟩ => by cases h1; subst h2; have := k p h0; rwa [List.length_replicate] at this) (fun _ ⟨_, _, h, _⟩ => by cases h)
theorem GD.makeSlice {α : Type} {ops : List Oper} {T e s by_ sz m sl i fuel : Nat} {listed listed' : List Bool} {z : List Value} {en : α → List Value} {x y : Operand} {ty : TypeId} {pos : String} {after : Array Edge} (z0 : α) (hE : El en sz)
    (hi : ops[i]? = some ⟨some sl, .makeSlice T x y, ty, pos, after, none⟩) (hm' : only ops listed i = true) (hl : setL listed i = some listed') (hx : ev κ x = some (.int .i64 (m : Int))) (hy : ev κ y = some (.int .i64 (m : Int))) (hT : apt P T = some (e, s, by_, z)) (hs : s = sz) (hz0 : en z0 = z) (hm : m ≤ 1073741824) (hsl : Nat.blt sl n = true)
    (k : ∀ p, p ≠ none → GD P ops Q n d F fuel listed' ((sl, .slice p (List.replicate m z0).length m) :: κ) (sA e sz en p m (List.replicate m z0) :: H)) :
    GD P ops Q n d F (fuel + 1) listed κ H :=
  GD.acts hi hm' hl (Acts.makeSlice z0 hE hx hy hT hs hz0 hm) hsl (fun _ _ ⟨p, h0, h1, h2⟩ => by cases h1; subst h2; have := k p h0; rwa [List.length_replicate] at this) (fun _ ⟨_, _, h, _⟩ => by cases h)
theorem Post.nilS {α : Type} {e' : Exit} (T sz : Nat) (e : α → List Value) (h : Post Q e' n d F κ (sA T sz e none 0 ([] : List α) :: H)) : Post Q e' n d F κ H := Post.mem (fun h => Sat.nilS T sz e h) h

end Go.Sl
/- The engine, part 19: two operations that act and may both come up. -/
namespace Go.Sl
open Go
variable {P : Program} {n : Nat} {d : List Deferred} {F : Frm} {κ : List (Nat × Value)} {H : List Assn}
variable {Q : Exit → Act → World → Prop}

/-- Operation i comes up now. -/
def GD1 (P : Program) (ops : List Oper) (Q : Exit → Act → World → Prop) (n : Nat) (d : List Deferred) (F : Frm) (fuel : Nat) (listed : List Bool) (κ : List (Nat × Value)) (H : List Assn) (i : Nat) : Prop :=
  ∀ a w, Fr n κ d a → Sat H F w → wpOp P ops.toArray (NP Q) i (fun a' w' => (brk .any ops.toArray i = true ∨ F.In w') ∧ wpAnyZ P .any ops.toArray (NP Q) F.In fuel (listed.toArray.setIfInBounds i true) a' w') a w

theorem GD.of2 {ops : List Oper} {i j fuel : Nat} {listed : List Bool} (hm : two ops listed i j = true) (h1 : GD1 P ops Q n d F fuel listed κ H i) (h2 : GD1 P ops Q n d F fuel listed κ H j) : GD P ops Q n d F (fuel + 1) listed κ H := fun a w hf hsat => by
  have hr : Region.ready .any ops.toArray listed.toArray = [i, j] := by
    rw [readys_eq]
    unfold two at hm
    split at hm
    · rename_i x y hxy
      simp only [Bool.and_eq_true] at hm
      rw [hxy, Nat.eq_of_beq_eq_true hm.1, Nat.eq_of_beq_eq_true hm.2]
    · cases hm
  refine wpAnyZ_all hr (by simp) ?_
  intro t ht
  simp only [List.mem_cons, List.not_mem_nil, or_false] at ht
  rcases ht with rfl | rfl
  · exact h1 a w hf hsat
  · exact h2 a w hf hsat

theorem GD1.one {ops : List Oper} {i fuel : Nat} {o : Oper} {listed listed' : List Bool} (hi : ops[i]? = some o) (hl : setL listed i = some listed')
    (h : ∀ K : Act → World → Prop, (∀ κ' H' a' w', Fr n κ' d a' → Sat H' F w' → GD P ops Q n d F fuel listed' κ' H' → K a' w') → ∀ a w, Fr n κ d a → Sat H F w → Region.wanted o (yielded ops.toArray a.tmps) = true ∧ o.wp P a w K (fun _ _ _ => False)) : GD1 P ops Q n d F fuel listed κ H i := fun a w hf hsat => by
  obtain ⟨h1, h2⟩ := h (fun a' w' => (brk .any ops.toArray i = true ∨ F.In w') ∧ wpAnyZ P .any ops.toArray (NP Q) F.In fuel (listed.toArray.setIfInBounds i true) a' w')
    (fun κ' H' a' w' hf' hs' hk => ⟨.inr hs'.inn, by
      have := hk a' w' hf' hs'
      rw [← setL_spec hl] at this
      simpa using this⟩) a w hf hsat
  unfold wpOp
  have hi' : ops.toArray[i]? = some o := by simpa using hi
  rw [hi']
  simp only [h1, if_true]
  left
  unfold Oper.wp at h2 ⊢
  generalize (execOp a.eval o).run P w = r at h2 ⊢
  cases r with
  | ok x w' =>
    cases x <;> simp only [Oper.upon] at h2 ⊢ <;> first
      | exact h2
      | exact h2.mono fun e w'' he => by
          cases e with
          | returned v => exact he
          | panicked c => exact he.elim
          | outgrown => obtain ⟨_, _, h⟩ := he; exact h.elim
  | halt x w' => cases x <;> simp only [Oper.upon] at h2

theorem GD1.acts {ops : List Oper} {i s fuel : Nat} {op : Op} {ty : TypeId} {pos : String} {after : Array Edge} {listed listed' : List Bool} {R : Option Value → List Assn → Prop} (hi : ops[i]? = some ⟨some s, op, ty, pos, after, none⟩) (hl : setL listed i = some listed')
    (h : Acts P κ H F op R) (hs : Nat.blt s n = true) (k : ∀ v H', R (some v) H' → GD P ops Q n d F fuel listed' ((s, v) :: κ) H') (k0 : ∀ H', ¬ R none H') : GD1 P ops Q n d F fuel listed κ H i := by
  refine GD1.one hi hl ?_
  intro K hK a w hf hsat
  refine ⟨rfl, ?_⟩
  unfold Oper.wp
  obtain ⟨x, v, w', H', hR, hsat', hx, hrun⟩ := h n d a w _ _ _ _ _ hf hsat
  rcases hx with rfl | rfl
  · exact absurd hR (k0 H')
  rcases hrun with hrun | ⟨h0, _⟩
  · rw [hrun, Oper.upon_value]; exact hK _ _ _ w' (hf.put hs) hsat' (k v H' hR)
  · cases h0
theorem GD1.rd {ops : List Oper} {i s fuel : Nat} {op : Op} {ty : TypeId} {pos : String} {after : Array Edge} {listed listed' : List Bool} {v : Value} (hi : ops[i]? = some ⟨some s, op, ty, pos, after, none⟩) (hl : setL listed i = some listed')
    (h : RD P κ H F op v) (hs : Nat.blt s n = true) (k : GD P ops Q n d F fuel listed' ((s, v) :: κ) H) : GD1 P ops Q n d F fuel listed κ H i := by
  refine GD1.one hi hl ?_
  intro K hK a w hf hsat
  refine ⟨rfl, ?_⟩
  unfold Oper.wp
  rw [h n d a w _ _ _ _ _ hf hsat, Oper.upon_value]; exact hK _ _ _ w (hf.put hs) hsat k
theorem GD1.call {ops : List Oper} {i fuel : Nat} {listed listed' : List Bool} {f : FuncId} {first caps vs l1 l2 : List Value} {x : Operand} {xs : Array Operand} {ats : Array TypeId} {s : Nat} {ty : TypeId} {pos : String} {after : Array Edge} {Hp Hr : List Assn} {R : Value → List Assn → Prop}
    (hi : ops[i]? = some ⟨some s, .call { callee := .value x, args := xs, argTypes := ats }, ty, pos, after, none⟩) (hl : setL listed i = some listed')
    (hx : ev κ x = some (.func (.func f) first.toArray caps.toArray)) (hxs : evs κ xs.toList = some vs) (h1 : App first vs l1) (h2 : App l1 caps l2) (hS : Split H Hp Hr)
    (spec : ∀ G, F.le G → (∀ A ∈ Hr, G.has A) → FnOk P f l2 Hp G R) (hs : Nat.blt s n = true)
    (k : ∀ v H', R v H' → GD P ops Q n d F fuel listed' ((s, v) :: κ) (H' ++ Hr)) : GD1 P ops Q n d F fuel listed κ H i := by
  refine GD1.one hi hl ?_
  intro K hK a w hf hsat
  refine ⟨rfl, ?_⟩
  obtain ⟨F', hle, hhas, hsat', hback⟩ := Sat.frame Hr (hsat.split hS).append_comm
  have hsp := spec F' hle hhas
  refine wp_call (run_callV hf hsp.real hx hxs h1 h2) ((hsp.calls w hsat').mono ?_)
  rintro e w' ⟨v, H', rfl, hR, hs'⟩
  exact ⟨v, rfl, hK _ _ _ w' (hf.put hs) (hback _ _ hs').append_comm (k v H' hR)⟩
theorem GD1.makeSlice {α : Type} {ops : List Oper} {T e s by_ sz m sl i fuel : Nat} {listed listed' : List Bool} {z : List Value} {en : α → List Value} {x y : Operand} {ty : TypeId} {pos : String} {after : Array Edge} (z0 : α) (hE : El en sz)
    (hi : ops[i]? = some ⟨some sl, .makeSlice T x y, ty, pos, after, none⟩) (hl : setL listed i = some listed') (hx : ev κ x = some (.int .i64 (m : Int))) (hy : ev κ y = some (.int .i64 (m : Int))) (hT : apt P T = some (e, s, by_, z)) (hs : s = sz) (hz0 : en z0 = z) (hm : m ≤ 1073741824) (hsl : Nat.blt sl n = true)
    (k : ∀ p, p ≠ none → GD P ops Q n d F fuel listed' ((sl, .slice p (List.replicate m z0).length m) :: κ) (sA e sz en p m (List.replicate m z0) :: H)) :
    GD1 P ops Q n d F fuel listed κ H i :=
  GD1.acts hi hl (Acts.makeSlice z0 hE hx hy hT hs hz0 hm) hsl (fun _ _ ⟨p, h0, h1, h2⟩ => by cases h1; subst h2; have := k p h0; rwa [List.length_replicate] at this) (fun _ ⟨_, _, h, _⟩ => by cases h)
end Go.Sl
/- The engine, part 20: structs of numbers as keys of maps. -/
namespace Go.Sl
open Go
variable {P : Program}

theorem allI_take : ∀ (k : Nat) (a : List Value), sameK a a = true → sameK (a.take k) (a.take k) = true := fun k a h => sameK_take k a a h

theorem ckS_ok : ∀ (d T k : Nat), eqS P d T = some k → ∀ (ag : Bool), lyt P T = some (ag, k) → ∀ (xs : List Value), xs.length = k → sameK xs xs = true → ∀ (em : Bool) (e : Nat) (w : World), d ≤ e →
    (Instr.checkKey em e T (mkV ag xs)).run P w = .ok () w
  | 0, _, _, h => by simp [eqS] at h
  | d + 1, T, k, h => by
    intro ag hag xs hx hk em e w he
    obtain ⟨e, rfl⟩ : ∃ e', e = e' + 1 := ⟨e - 1, by omega⟩
    simp only [eqS] at h
    split at h
    · rename_i kk hu
      cases h
      have hfalse : ag = false := by
        unfold lyt at hag; rw [hu] at hag
        cases hi : P.info? T with
        | none => simp [hi] at hag
        | some i => simp [hi] at hag; exact hag.1
      subst hfalse
      match xs, hx, hk with
      | [.int k1 a], _, _ =>
        simp only [mkV, Bool.false_eq_true, if_false, List.headD_cons]
        simp only [Instr.checkKey]
        rw [Sem.run_bind, run_underlying hu]
        rfl
    · rename_i fs hu
      cases hst : P.stoodInHeld T with
      | true => simp [hst] at h
      | false =>
        simp only [hst, cond_false] at h
        have htrue : ag = true := by
          unfold lyt at hag; rw [hu] at hag
          cases hi : P.info? T with
          | none => simp [hi] at hag
          | some i => simp [hi] at hag; exact hag.1
        subst htrue
        simp only [mkV, if_true]
        simp only [Instr.checkKey]
        rw [Sem.run_bind, run_underlying hu]
        simp only [Result.andThen]
        rw [← Array.forIn_toList]
        have key : ∀ (l : List Field) (off : Nat), eqF P (eqS P d) l off = some k → off ≤ k →
            (forIn l PUnit.unit fun f _ => if f.name ≠ "_" then do let y ← part f.type xs.toArray f.offset; Instr.checkKey em e f.type y; pure (ForInStep.yield PUnit.unit) else pure (ForInStep.yield PUnit.unit) : Sem PUnit).run P w = .ok () w := by
          intro l
          induction l with
          | nil => intro off _ _; simp
          | cons f l ih =>
            intro off h1 _
            simp only [eqF] at h1
            split at h1
            · rename_i k1 ag1 m1 hg hl
              cases hb : (!(f.name == "_") && Nat.beq f.offset off && Nat.beq k1 m1 && (ag1 || Nat.beq k1 1)) with
              | false => simp [hb] at h1
              | true =>
                rw [hb, cond_true] at h1
                simp only [Bool.and_eq_true, Bool.not_eq_true', Bool.or_eq_true] at hb
                obtain ⟨⟨⟨hn, hof⟩, hkm⟩, hag1⟩ := hb
                have hof := Nat.eq_of_beq_eq_true hof
                have hkm := Nat.eq_of_beq_eq_true hkm
                subst hkm
                have hle : off + k1 ≤ k := by
                  have : ∀ (l : List Field) (o : Nat), eqF P (eqS P d) l o = some k → o ≤ k := by
                    intro l
                    induction l with
                    | nil => intro o h; simp only [eqF, Option.some.injEq] at h; omega
                    | cons f l ih =>
                      intro o h
                      simp only [eqF] at h
                      split at h
                      · rename_i k2 ag2 m2 _ _
                        cases hb : (!(f.name == "_") && Nat.beq f.offset o && Nat.beq k2 m2 && (ag2 || Nat.beq k2 1)) with
                        | false => simp [hb] at h
                        | true => rw [hb, cond_true] at h; have := ih _ h; omega
                      · cases h
                  exact this l _ h1
                have hm1 : ag1 = true ∨ k1 = 1 := hag1.imp id Nat.eq_of_beq_eq_true
                have hn' : f.name ≠ "_" := by simpa using hn
                have hck := ckS_ok d f.type k1 hg ag1 hl ((xs.drop off).take k1) (by simp; omega) (sameK_take _ _ _ (sameK_drop _ _ _ hk)) em e w (by omega)
                simp only [List.forIn_cons, if_pos hn', hof]
                simp only [Sem.run_bind, run_part hl hm1 (show off + k1 ≤ xs.length by omega), Result.andThen, hck, Sem.run_pure]
                exact ih _ h1 hle
            · cases h1
        have := key fs.toList 0 h (Nat.zero_le _)
        simpa using this
    · cases h

def bitsOk : List Value → Bool
  | [] => true
  | .int _ _ :: r => bitsOk r
  | _ => false
theorem bitsOk_same : ∀ (l : List Value), bitsOk l = true → (l.zip l).all (fun (x, y) => Instr.sameBits 9999 x y) = true
  | [], _ => rfl
  | v :: r, h => by
    cases v <;> simp only [bitsOk, Bool.false_eq_true] at h
    simp only [List.zip_cons_cons, List.all_cons, Bool.and_eq_true]
    exact ⟨by simp [Instr.sameBits], bitsOk_same r h⟩

/-- Structs of numbers, told apart by their cells. -/
theorem keyS {K : Type} [DecidableEq K] {en : K → List Value} {T k : Nat} (hT : eqS P 8 T = some k) (hl : lyt P T = some (true, k)) (h1 : ∀ a, (en a).length = k) (h2 : ∀ a b, sameK (en a) (en b) = true) (h3 : ∀ a b, eqI (en a) (en b) = decide (a = b)) (h4 : ∀ a, bitsOk (en a) = true) (_hk : 0 < k) :
    KeyOk P T (fun a => .agg (en a).toArray) := by
  refine ⟨fun a e w => ?_, fun a es m w hes => ?_, fun a => ?_⟩
  · have := ckS_ok (P := P) 8 T k hT true hl (en a) (h1 a) (h2 a a) e 10000 w (by decide)
    simpa [mkV] using this
  · have hu : ∃ d, P.underlying T = some d := by
      unfold lyt at hl
      cases hd : P.underlying T with
      | none => simp [hd] at hl
      | some d => exact ⟨d, rfl⟩
    obtain ⟨d, hd⟩ := hu
    have hask : ∀ (m : List (K × Value)) (es : List MapEntry) (i : Nat), es.map (fun e => (e.key, e.val)) = m.map (fun p => ((Value.agg (en p.1).toArray), p.2)) → (Instr.findAsking T (.agg (en a).toArray) es i).run P w = .ok (fnd a m i) w := by
      intro m
      induction m with
      | nil => intro es i h; simp at h; subst h; rfl
      | cons p r ih =>
        intro es i h
        cases es with
        | nil => simp at h
        | cons e es =>
          obtain ⟨b, v⟩ := p
          simp only [List.map_cons, List.cons.injEq, Prod.mk.injEq] at h
          obtain ⟨⟨g1, g2⟩, g3⟩ := h
          have heq := eqS_ok (P := P) 8 T k hT true hl (en a) (en b) (h1 a) (h1 b) (h2 a b) 10000 w (by decide)
          simp only [mkV, if_true, h3] at heq
          simp only [Instr.findAsking, g1, fnd]
          rw [Sem.run_bind]
          have heq' : (Op.equal T (.agg (en a).toArray) (.agg (en b).toArray)).run P w = .ok (decide (a = b)) w := heq
          rw [heq']
          simp only [Result.andThen]
          by_cases hab : a = b
          · simp [hab, g2]
          · simp [hab, ih es (i + 1) g3]
    simp only [Instr.findKey]
    rw [Sem.run_bind, run_underlying hd]
    simp only [Result.andThen]
    cases es with
    | nil =>
      cases m with
      | nil => simp [Instr.findNow, fnd]
      | cons p r => simp at hes
    | cons e es =>
      have hsn : Instr.sameNow d (.agg (en a).toArray) e.key = none := by
        unfold Instr.sameNow
        split <;> simp_all
      simp only [Instr.findNow, hsn]
      exact hask m (e :: es) 0 hes
  · simp only [Instr.sameBits, beq_self_eq_true, Bool.true_and]
    exact bitsOk_same (en a) (h4 a)
theorem GD.mapUpdate {n : Nat} {d : List Deferred} {F : Frm} {κ : List (Nat × Value)} {H : List Assn} {Q : Exit → Act → World → Prop} {K V : Type} [DecidableEq K] {ops : List Oper} {T kt et b i fuel : Nat} {listed listed' : List Bool} {ek : K → Value} {ev' : V → Value} {m : List (K × V)} (k : K) (v : V) {x y z : Operand} {R : List Assn} {op : Op} {ty : TypeId} {pos : String} {after : Array Edge} (hop : op = .mapUpdate T x y z ∨ op = .insert T x y z)
    (hi : ops[i]? = some ⟨none, op, ty, pos, after, none⟩) (hm : only ops listed i = true) (hl : setL listed i = some listed') (hx : ev κ x = some (.map (some b))) (hy : ev κ y = some (ek k)) (hz : ev κ z = some (ev' v)) (hT : mpt P T = some (kt, et)) (hk : KeyOk P kt ek) (hp : Pick H (mA ek ev' b m) R)
    (kk : GD P ops Q n d F fuel listed' κ (mA ek ev' b (insm k v m) :: R)) : GD P ops Q n d F (fuel + 1) listed κ H :=
  GD.acts0 hi hm hl (Acts.mapUpdate k v hx hy hz hT hk hp hop) (fun _ _ h => h.2 ▸ kk)

theorem GD1.append1 {n : Nat} {d : List Deferred} {F : Frm} {κ : List (Nat × Value)} {H : List Assn} {Q : Exit → Act → World → Prop} {α : Type} {T T0 e s by_ sz cp c2 b sl i fuel : Nat} {ops : List Oper} {listed listed' : List Bool} {z us : List Value} {en : α → List Value} {p : Option Addr} {l : List α} {x y : Operand} {R R0 : List Assn} {ty : TypeId} {pos : String} {after : Array Edge} (a : α) (hE : El en sz)
    (hi : ops[i]? = some ⟨some sl, .call { callee := .builtin .append, args := #[x, y], argTypes := #[T, T] }, ty, pos, after, none⟩) (hl : setL listed i = some listed')
    (hx : ev κ x = some (.slice p l.length cp)) (hy : ev κ y = some (.slice (some ⟨b, 0, none⟩) 1 c2)) (hT : apt P T = some (e, s, by_, z)) (hs : s = sz) (hp : Pick H (sA e sz en p cp l) R) (hn : l.length + 1 ≤ 1073741824)
    (hq : Pick R (pt b (cl us T0)) R0) (hu : en a = us) (hsl : Nat.blt sl n = true)
    (k : ∀ p' c', GD P ops Q n d F fuel listed' ((sl, .slice p' (l ++ [a]).length c') :: κ) (sA e sz en p' c' (l ++ [a]) :: R)) :
    GD1 P ops Q n d F fuel listed κ H i := by
  refine GD1.acts hi hl (Acts.append [a] hE hx hy hT hs hp (by simpa using hn) (fun w hw => ?_)) hsl ?_ (fun _ ⟨_, _, h, _⟩ => by cases h)
  · have h2 := (hw.pick hp).drop.pick hq
    have hl : us.length = 1 * sz := by rw [← hu, hE.len]; omega
    have : flat en [a] = us := by simp [flat, hu]
    rw [this]
    exact Reads.pt h2.pt_head hl
  · rintro v H' ⟨p', c', h1, h2⟩
    cases h1; subst h2
    exact k p' c'

end Go.Sl
