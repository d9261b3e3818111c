import PyProof.Rows.All
import Wide.All
import OpenK.AllK
import Wide.FinOn
import HandS.ForMost
import HandS.SlotsOwn
import HandS.DictComp
import HandS.IsInst
import HandS.Property
import HandS.ClsMeth
import HandS.CallLocal
import HandS.Conv
import HandS.More
import HandS.Flow
import KE.KOpsOwn
import PyProof.DictUpdate
import PySem.Challenge.RW_chainmaps_k08_whole_rules_of_operators
import HandS.Codes
set_option Elab.async false
set_option linter.all false
set_option maxRecDepth 100000
set_option maxHeartbeats 8000000
namespace CM
/-! ### maps as partial functions -/
abbrev PF := Nat → Option Nat
structure Ok (n : Nat) (f : PF) : Prop where
  dom : ∀ x y, f x = some y → x < n
  cod : ∀ x y, f x = some y → y < n
  inj : ∀ x y z, f x = some z → f y = some z → x = y

theorem ext {f g : PF} (h : ∀ x y, f x = some y ↔ g x = some y) : f = g := by
  funext x
  cases e : f x with
  | none =>
    cases e2 : g x with
    | none => rfl
    | some y => rw [(h x y).mpr e2] at e; cases e
  | some y => exact ((h x y).mp e).symm

def mulF (f g : PF) : PF := fun x => (f x).bind g
def invF (n : Nat) (f : PF) : PF := fun y => (List.range n).find? fun x => f x == some y
def andF (f g : PF) : PF := fun x => if g x = f x then f x else none
def subF (f g : PF) : PF := fun x => if g x = f x then none else f x
def idF (n : Nat) : PF := fun x => if x < n then some x else none
def noF : PF := fun _ => none
def leF (f g : PF) : Prop := ∀ x y, f x = some y → g x = some y
def iter (f : PF) : Nat → PF
  | 0 => some
  | k + 1 => fun x => (f x).bind (iter f k)
/-- the power with a whole exponent -/
def powF (n : Nat) (f : PF) (m : Int) : PF := fun x => if x < n then (if m < 0 then iter (invF n f) (-m).toNat x else iter f m.toNat x) else none

theorem mul_iff {f g : PF} {x z : Nat} : mulF f g x = some z ↔ ∃ y, f x = some y ∧ g y = some z := by
  unfold mulF
  cases f x with
  | none => simp
  | some y => simp
theorem inv_iff {n : Nat} {f : PF} (o : Ok n f) {x y : Nat} : invF n f y = some x ↔ f x = some y := by
  unfold invF
  constructor
  · intro h
    have := List.find?_some h
    exact beq_iff_eq.mp this
  · intro h
    cases e : (List.range n).find? fun x => f x == some y with
    | none =>
      have := List.find?_eq_none.mp e x (List.mem_range.mpr (o.dom _ _ h))
      simp [h] at this
    | some z =>
      have h2 : f z = some y := by
        have q := List.find?_some e
        exact beq_iff_eq.mp q
      rw [o.inj _ _ _ h2 h]
theorem and_iff {f g : PF} {x y : Nat} : andF f g x = some y ↔ f x = some y ∧ g x = some y := by
  unfold andF
  by_cases e : g x = f x
  · rw [if_pos e]; rw [e]; exact ⟨fun h => ⟨h, h⟩, fun h => h.1⟩
  · rw [if_neg e]
    refine ⟨fun h => (nomatch h), fun ⟨h1, h2⟩ => absurd (h2.trans h1.symm) e⟩
theorem sub_iff {f g : PF} {x y : Nat} : subF f g x = some y ↔ f x = some y ∧ g x ≠ some y := by
  unfold subF
  by_cases e : g x = f x
  · rw [if_pos e]; rw [e]; exact ⟨fun h => (nomatch h), fun h => absurd h.1 h.2⟩
  · rw [if_neg e]
    exact ⟨fun h => ⟨h, fun q => e (q.trans h.symm)⟩, fun h => h.1⟩
theorem id_iff {n x y : Nat} : idF n x = some y ↔ x < n ∧ y = x := by
  unfold idF
  by_cases h : x < n
  · rw [if_pos h]; simp [h]; exact eq_comm
  · rw [if_neg h]; simp [h]

/-! ### the operations keep maps maps -/
theorem Ok.mul {n : Nat} {f g : PF} (a : Ok n f) (b : Ok n g) : Ok n (mulF f g) where
  dom := fun x z h => let ⟨_, h1, _⟩ := mul_iff.mp h; a.dom _ _ h1
  cod := fun x z h => let ⟨_, _, h2⟩ := mul_iff.mp h; b.cod _ _ h2
  inj := fun x y z h h' => by
    obtain ⟨u, h1, h2⟩ := mul_iff.mp h
    obtain ⟨v, h3, h4⟩ := mul_iff.mp h'
    have e := b.inj _ _ _ h2 h4
    subst e
    exact a.inj _ _ _ h1 h3
theorem Ok.inv {n : Nat} {f : PF} (a : Ok n f) : Ok n (invF n f) where
  dom := fun x y h => a.cod _ _ ((inv_iff a).mp h)
  cod := fun x y h => a.dom _ _ ((inv_iff a).mp h)
  inj := fun x y z h h' => by
    have e := ((inv_iff a).mp h).symm.trans ((inv_iff a).mp h')
    exact Option.some.inj e
theorem Ok.sub_of {n : Nat} {f g : PF} (a : Ok n f) (h : leF g f) : Ok n g where
  dom := fun x y e => a.dom _ _ (h _ _ e)
  cod := fun x y e => a.cod _ _ (h _ _ e)
  inj := fun x y z e e' => a.inj _ _ _ (h _ _ e) (h _ _ e')
theorem and_le {f g : PF} : leF (andF f g) f := fun _ _ h => (and_iff.mp h).1
theorem and_le2 {f g : PF} : leF (andF f g) g := fun _ _ h => (and_iff.mp h).2
theorem sub_le {f g : PF} : leF (subF f g) f := fun _ _ h => (sub_iff.mp h).1
theorem Ok.and {n : Nat} {f g : PF} (a : Ok n f) : Ok n (andF f g) := a.sub_of and_le
theorem Ok.sub {n : Nat} {f g : PF} (a : Ok n f) : Ok n (subF f g) := a.sub_of sub_le
theorem Ok.id (n : Nat) : Ok n (idF n) where
  dom := fun x y h => (id_iff.mp h).1
  cod := fun x y h => by have := id_iff.mp h; omega
  inj := fun x y z h h' => by have := id_iff.mp h; have := id_iff.mp h'; omega
theorem Ok.no (n : Nat) : Ok n noF := ⟨fun _ _ h => (nomatch h), fun _ _ h => (nomatch h), fun _ _ _ h => (nomatch h)⟩

/-! ### iterates -/
theorem iter_add {f : PF} : ∀ (a b : Nat) (x : Nat), iter f (a + b) x = (iter f a x).bind (iter f b)
  | 0, b, x => by rw [Nat.zero_add]; rfl
  | a + 1, b, x => by
    rw [show a + 1 + b = (a + b) + 1 by omega]
    show (f x).bind (iter f (a + b)) = ((f x).bind (iter f a)).bind (iter f b)
    cases f x with
    | none => rfl
    | some y => exact iter_add a b y
theorem iter_one {f : PF} {x : Nat} : iter f 1 x = f x := by
  show (f x).bind some = f x
  cases f x <;> rfl
theorem iter_succ' {f : PF} {k x : Nat} : iter f (k + 1) x = (iter f k x).bind f := by
  rw [iter_add k 1 x]
  cases iter f k x with
  | none => rfl
  | some y => exact iter_one
theorem iter_inj {n : Nat} {f : PF} (o : Ok n f) : ∀ (k : Nat) (x y z : Nat), iter f k x = some z → iter f k y = some z → x = y
  | 0, x, y, z, h, h' => (Option.some.inj h).trans (Option.some.inj h').symm
  | k + 1, x, y, z, h, h' => by
    have h : (f x).bind (iter f k) = some z := h
    have h' : (f y).bind (iter f k) = some z := h'
    cases e : f x with
    | none => rw [e] at h; cases h
    | some u =>
      cases e' : f y with
      | none => rw [e'] at h'; cases h'
      | some v =>
        rw [e] at h; rw [e'] at h'
        have q := iter_inj o k u v z h h'
        subst q
        exact o.inj _ _ _ e e'
theorem iter_cod {n : Nat} {f : PF} (o : Ok n f) : ∀ (k : Nat) (x y : Nat), x < n → iter f k x = some y → y < n
  | 0, x, y, hx, h => by cases (Option.some.inj h); exact hx
  | k + 1, x, y, hx, h => by
    have h : (f x).bind (iter f k) = some y := h
    cases e : f x with
    | none => rw [e] at h; cases h
    | some u => rw [e] at h; exact iter_cod o k u y (o.cod _ _ e) h
theorem iter_inv {n : Nat} {f : PF} (o : Ok n f) : ∀ (k : Nat) (x y : Nat), iter (invF n f) k y = some x ↔ iter f k x = some y
  | 0, x, y => ⟨fun h => by cases (Option.some.inj h); rfl, fun h => by cases (Option.some.inj h); rfl⟩
  | k + 1, x, y => by
    rw [iter_succ' (f := f)]
    show (invF n f y).bind (iter (invF n f) k) = some x ↔ _
    constructor
    · intro h
      cases e : invF n f y with
      | none => rw [e] at h; cases h
      | some u =>
        rw [e] at h
        rw [(iter_inv o k x u).mp h]
        exact (inv_iff o).mp e
    · intro h
      cases e : iter f k x with
      | none => rw [e] at h; cases h
      | some u =>
        rw [e] at h
        rw [(inv_iff o).mpr h]
        exact (iter_inv o k x u).mpr e

theorem pow_pos {n : Nat} {f : PF} {k : Nat} {x y : Nat} : powF n f (k : Int) x = some y ↔ x < n ∧ iter f k x = some y := by
  unfold powF
  by_cases hx : x < n
  · rw [if_pos hx, if_neg (by omega)]; simp [hx]
  · rw [if_neg hx]; simp [hx]
theorem pow_neg {n : Nat} {f : PF} (o : Ok n f) {k : Nat} {x y : Nat} : powF n f (-(k : Int)) x = some y ↔ x < n ∧ y < n ∧ iter f k y = some x := by
  unfold powF
  by_cases hx : x < n
  · rw [if_pos hx]
    by_cases hk : k = 0
    · subst hk
      rw [if_neg (by omega)]
      simp only [hx, true_and]
      show some x = some y ↔ y < n ∧ some y = some x
      constructor
      · intro h; cases (Option.some.inj h); exact ⟨hx, rfl⟩
      · intro h; exact h.2.symm
    · rw [if_pos (by omega), Int.neg_neg, Int.toNat_natCast, iter_inv o]
      refine ⟨fun h => ⟨hx, ?_, h⟩, fun h => h.2.2⟩
      obtain ⟨j, rfl⟩ : ∃ j, k = j + 1 := ⟨k - 1, by omega⟩
      have h : (f y).bind (iter f j) = some x := h
      cases e : f y with
      | none => rw [e] at h; cases h
      | some u => exact o.dom _ _ e
  · rw [if_neg hx]; simp [hx]
theorem Ok.iter {n : Nat} {f : PF} (o : Ok n f) (k : Nat) : Ok n (fun x => if x < n then iter f k x else none) where
  dom := fun x y h => by
    by_cases hx : x < n
    · exact hx
    · rw [if_neg hx] at h; cases h
  cod := fun x y h => by
    by_cases hx : x < n
    · rw [if_pos hx] at h; exact iter_cod o k x y hx h
    · rw [if_neg hx] at h; cases h
  inj := fun x y z h h' => by
    by_cases hx : x < n
    · by_cases hy : y < n
      · rw [if_pos hx] at h; rw [if_pos hy] at h'; exact iter_inj o k x y z h h'
      · rw [if_neg hy] at h'; cases h'
    · rw [if_neg hx] at h; cases h
theorem Ok.pow {n : Nat} {f : PF} (o : Ok n f) (m : Int) : Ok n (powF n f m) := by
  by_cases hm : m < 0
  · have e : powF n f m = fun x => if x < n then CM.iter (invF n f) (-m).toNat x else none := by
      funext x; unfold powF; rw [if_pos hm]
    rw [e]
    exact o.inv.iter _
  · have e : powF n f m = fun x => if x < n then CM.iter f m.toNat x else none := by
      funext x; unfold powF; rw [if_neg hm]
    rw [e]
    exact o.iter _

/-! ### the laws -/
theorem mul_assoc (f g h : PF) : mulF (mulF f g) h = mulF f (mulF g h) := by
  funext x
  unfold mulF
  cases f x <;> rfl
theorem inv_mul {n : Nat} {f g : PF} (a : Ok n f) (b : Ok n g) : invF n (mulF f g) = mulF (invF n g) (invF n f) := by
  refine ext fun x y => ?_
  rw [inv_iff (a.mul b), mul_iff, mul_iff]
  constructor
  · rintro ⟨u, h1, h2⟩; exact ⟨u, (inv_iff b).mpr h2, (inv_iff a).mpr h1⟩
  · rintro ⟨u, h1, h2⟩; exact ⟨u, (inv_iff a).mp h2, (inv_iff b).mp h1⟩
theorem inv_inv {n : Nat} {f : PF} (a : Ok n f) : invF n (invF n f) = f := by
  refine ext fun x y => ?_
  rw [inv_iff a.inv, inv_iff a]
theorem mul_inv_mul {n : Nat} {f : PF} (a : Ok n f) : mulF (mulF f (invF n f)) f = f := by
  refine ext fun x z => ?_
  rw [mul_iff]
  constructor
  · rintro ⟨y, h, h2⟩
    obtain ⟨u, h1, h3⟩ := mul_iff.mp h
    have e := a.inj _ _ _ ((inv_iff a).mp h3) h1
    subst e
    exact h2
  · intro h
    exact ⟨x, mul_iff.mpr ⟨z, h, (inv_iff a).mpr h⟩, h⟩
theorem mul_inv_iff {n : Nat} {f : PF} (a : Ok n f) {x z : Nat} : mulF f (invF n f) x = some z ↔ z = x ∧ (f x).isSome = true := by
  rw [mul_iff]
  constructor
  · rintro ⟨u, h1, h2⟩
    exact ⟨a.inj _ _ _ ((inv_iff a).mp h2) h1, by rw [h1]; rfl⟩
  · rintro ⟨rfl, h⟩
    obtain ⟨u, e⟩ := Option.isSome_iff_exists.mp h
    exact ⟨u, e, (inv_iff a).mpr e⟩
theorem mul_mono_left {f g h : PF} (l : leF f g) : leF (mulF f h) (mulF g h) := fun x y e => by
  obtain ⟨u, h1, h2⟩ := mul_iff.mp e
  exact mul_iff.mpr ⟨u, l _ _ h1, h2⟩
theorem mul_mono_right {f g h : PF} (l : leF f g) : leF (mulF h f) (mulF h g) := fun x y e => by
  obtain ⟨u, h1, h2⟩ := mul_iff.mp e
  exact mul_iff.mpr ⟨u, h1, l _ _ h2⟩
theorem mul_id {n : Nat} {f : PF} (a : Ok n f) : mulF f (idF n) = f := by
  refine ext fun x y => ?_
  rw [mul_iff]
  constructor
  · rintro ⟨u, h1, h2⟩
    obtain ⟨_, rfl⟩ := id_iff.mp h2
    exact h1
  · intro h
    exact ⟨y, h, id_iff.mpr ⟨a.cod _ _ h, rfl⟩⟩
theorem mul_no {f : PF} : mulF f noF = noF := by
  refine ext fun x y => ?_
  rw [mul_iff]
  exact ⟨fun ⟨_, _, h⟩ => (nomatch h), fun h => (nomatch h)⟩
theorem and_greatest {f g h : PF} (hf : leF h f) : leF h (andF f g) ↔ leF h g :=
  ⟨fun q x y e => (and_iff.mp (q x y e)).2, fun q x y e => and_iff.mpr ⟨hf x y e, q x y e⟩⟩
theorem sub_or_and {f g : PF} {x y : Nat} : (subF f g x = some y ∨ andF f g x = some y) ↔ f x = some y := by
  rw [sub_iff, and_iff]
  by_cases h : g x = some y
  · simp [h]
  · simp [h]
theorem sub_and {f g : PF} : andF (subF f g) g = noF := by
  refine ext fun x y => ?_
  rw [and_iff, sub_iff]
  exact ⟨fun ⟨⟨_, h1⟩, h2⟩ => absurd h2 h1, fun h => (nomatch h)⟩

theorem pow_add {n : Nat} {f : PF} (o : Ok n f) (a b : Nat) : mulF (powF n f a) (powF n f b) = powF n f ((a : Int) + b) := by
  refine ext fun x z => ?_
  rw [mul_iff, show (a : Int) + b = ((a + b : Nat) : Int) by omega, pow_pos, iter_add]
  constructor
  · rintro ⟨y, h1, h2⟩
    obtain ⟨hx, e1⟩ := pow_pos.mp h1
    obtain ⟨_, e2⟩ := pow_pos.mp h2
    exact ⟨hx, by rw [e1]; exact e2⟩
  · rintro ⟨hx, h⟩
    cases e : iter f a x with
    | none => rw [e] at h; cases h
    | some y =>
      rw [e] at h
      exact ⟨y, pow_pos.mpr ⟨hx, e⟩, pow_pos.mpr ⟨iter_cod o a x y hx e, h⟩⟩
theorem pow_mixed {n : Nat} {f : PF} (o : Ok n f) (a b : Nat) : leF (mulF (powF n f a) (powF n f (-(b : Int)))) (powF n f ((a : Int) - b)) := by
  intro x z h
  obtain ⟨y, h1, h2⟩ := mul_iff.mp h
  obtain ⟨hx, e1⟩ := pow_pos.mp h1
  obtain ⟨hy, hz, e2⟩ := (pow_neg o).mp h2
  rcases Nat.le_total b a with hab | hab
  · rw [show (a : Int) - b = ((a - b : Nat) : Int) by omega, pow_pos]
    refine ⟨hx, ?_⟩
    rw [show a = (a - b) + b by omega, iter_add] at e1
    cases e : iter f (a - b) x with
    | none => rw [e] at e1; cases e1
    | some u => rw [e] at e1; rw [iter_inj o b u z y e1 e2]
  · rw [show (a : Int) - b = -((b - a : Nat) : Int) by omega, pow_neg o]
    refine ⟨hx, hz, ?_⟩
    rw [show b = (b - a) + a by omega, iter_add] at e2
    cases e : iter f (b - a) z with
    | none => rw [e] at e2; cases e2
    | some u => rw [e] at e2; rw [iter_inj o a u x y e2 e1]
theorem iter_pow {n : Nat} {f : PF} (o : Ok n f) (a : Nat) : ∀ (b : Nat) (x : Nat), x < n → iter (powF n f a) b x = iter f (a * b) x
  | 0, x, _ => rfl
  | b + 1, x, hx => by
    rw [Nat.mul_succ, Nat.add_comm (a * b) a, iter_add a (a * b) x]
    show (powF n f a x).bind (iter (powF n f a) b) = _
    have e : powF n f a x = iter f a x := by
      unfold powF; rw [if_pos hx, if_neg (by omega), Int.toNat_natCast]
    rw [e]
    cases e2 : iter f a x with
    | none => rfl
    | some y => exact iter_pow o a b y (iter_cod o a x y hx e2)
theorem pow_mul {n : Nat} {f : PF} (o : Ok n f) (a b : Nat) : powF n (powF n f a) b = powF n f ((a : Int) * b) := by
  refine ext fun x y => ?_
  rw [show (a : Int) * b = ((a * b : Nat) : Int) by rw [Int.natCast_mul], pow_pos, pow_pos]
  constructor
  · rintro ⟨hx, h⟩; exact ⟨hx, by rw [← iter_pow o a b x hx]; exact h⟩
  · rintro ⟨hx, h⟩; exact ⟨hx, by rw [iter_pow o a b x hx]; exact h⟩
theorem inv_pow {n : Nat} {f : PF} (o : Ok n f) (a : Nat) : invF n (powF n f a) = powF n f (-(a : Int)) := by
  refine ext fun x y => ?_
  rw [inv_iff (o.pow a), pow_neg o, pow_pos]
  constructor
  · rintro ⟨hy, h⟩; exact ⟨iter_cod o a y x hy h, hy, h⟩
  · rintro ⟨_, hy, h⟩; exact ⟨hy, h⟩
theorem pow_negs {n : Nat} {f : PF} (o : Ok n f) (a b : Nat) : mulF (powF n f (-(a : Int))) (powF n f (-(b : Int))) = powF n f (-(a : Int) - b) := by
  rw [← inv_pow o, ← inv_pow o, ← inv_mul (o.pow b) (o.pow a), pow_add o, show (b : Int) + a = ((b + a : Nat) : Int) by omega, inv_pow o]
  congr 1
  omega
/-- equal to the common part if as many arrows -/
theorem eq_of_le {f g : PF} (h : leF f g) (h' : leF g f) : f = g := ext fun x y => ⟨h x y, h' x y⟩
theorem leF_refl (f : PF) : leF f f := fun _ _ h => h
end CM

namespace CM
/-! ### maps as lists of pairs -/
def arr (n : Nat) (f : PF) : List (Nat × Nat) := (List.range n).filterMap fun x => (f x).map fun y => (x, y)
def Rep (l : List (Nat × Nat)) (f : PF) : Prop := ∀ x y, (x, y) ∈ l ↔ f x = some y
theorem mem_arr {n : Nat} {f : PF} {x y : Nat} : (x, y) ∈ arr n f ↔ x < n ∧ f x = some y := by
  unfold arr
  rw [List.mem_filterMap]
  constructor
  · rintro ⟨a, ha, h⟩
    cases e : f a with
    | none => rw [e] at h; cases h
    | some b =>
      rw [e] at h
      cases h
      exact ⟨List.mem_range.mp ha, e⟩
  · rintro ⟨hx, h⟩
    exact ⟨x, List.mem_range.mpr hx, by rw [h]; rfl⟩
theorem rep_arr {n : Nat} {f : PF} (o : Ok n f) : Rep (arr n f) f := fun x y => by
  rw [mem_arr]
  exact ⟨fun h => h.2, fun h => ⟨o.dom _ _ h, h⟩⟩
theorem keys_filterMap (f : PF) : ∀ l : List Nat, (l.filterMap fun x => (f x).map fun y => (x, y)).map (·.1) = l.filter fun x => (f x).isSome
  | [] => rfl
  | a :: r => by
    have ih := keys_filterMap f r
    cases e : f a with
    | none => rw [List.filterMap_cons_none (by rw [e]; rfl), List.filter_cons_of_neg (by rw [e]; simp)]; exact ih
    | some b => rw [List.filterMap_cons_some (b := (a, b)) (by rw [e]; rfl), List.filter_cons_of_pos (by rw [e]; rfl), List.map_cons, ih]
theorem keys_arr (n : Nat) (f : PF) : (arr n f).map (·.1) = (List.range n).filter fun x => (f x).isSome := keys_filterMap f _
theorem nodup_keys_arr (n : Nat) (f : PF) : ((arr n f).map (·.1)).Nodup := by
  rw [keys_arr]
  exact List.Nodup.sublist List.filter_sublist List.nodup_range
theorem nodup_vals {n : Nat} {f : PF} (o : Ok n f) {l : List (Nat × Nat)} (r : ∀ p ∈ l, f p.1 = some p.2) (nd : (l.map (·.1)).Nodup) : (l.map (·.2)).Nodup := by
  rw [List.Nodup, List.pairwise_map] at nd ⊢
  refine List.Pairwise.imp_of_mem (fun {a b} ha hb h e => h ?_) nd
  exact o.inj _ _ _ (r a ha) (by rw [r b hb, e])
theorem length_arr (n : Nat) (f : PF) : (arr n f).length ≤ n := by
  have := List.length_filterMap_le (fun x => (f x).map fun y => (x, y)) (List.range n)
  rw [List.length_range] at this
  exact this
theorem sub_arr {f g : PF} (h : leF g f) : ∀ l : List Nat, (l.filterMap fun x => (g x).map fun y => (x, y)).Sublist (l.filterMap fun x => (f x).map fun y => (x, y))
  | [] => .slnil
  | a :: r => by
    have ih := sub_arr h r
    cases e : g a with
    | none =>
      rw [List.filterMap_cons_none (by rw [e]; rfl)]
      cases e2 : f a with
      | none => rw [List.filterMap_cons_none (by rw [e2]; rfl)]; exact ih
      | some b => rw [List.filterMap_cons_some (b := (a, b)) (by rw [e2]; rfl)]; exact ih.cons _
    | some b =>
      have e2 := h _ _ e
      rw [List.filterMap_cons_some (b := (a, b)) (by rw [e]; rfl), List.filterMap_cons_some (b := (a, b)) (by rw [e2]; rfl)]
      exact ih.cons_cons _
theorem len_le {n : Nat} {f g : PF} (h : leF g f) : (arr n g).length ≤ (arr n f).length := (sub_arr h _).length_le
theorem eq_of_len {n : Nat} {f g : PF} (o : Ok n f) (h : leF g f) (e : (arr n g).length = (arr n f).length) : g = f := by
  have q : arr n g = arr n f := (sub_arr h _).eq_of_length e
  have r := rep_arr (o.sub_of h)
  have r2 := rep_arr o
  refine ext fun x y => ?_
  rw [← r, ← r2, q]
theorem arr_no (n : Nat) : arr n noF = [] := by
  unfold arr noF
  induction List.range n with
  | nil => rfl
  | cons a r ih => rw [List.filterMap_cons_none rfl]; exact ih
theorem arr_id (n : Nat) : arr n (idF n) = (List.range n).map fun x => (x, x) := by
  have h : ∀ l : List Nat, (∀ x ∈ l, x < n) → (l.filterMap fun x => (idF n x).map fun y => (x, y)) = l.map fun x => (x, x) := by
    intro l
    induction l with
    | nil => intro _; rfl
    | cons a r ih =>
      intro hl
      have ha : idF n a = some a := id_iff.mpr ⟨hl a List.mem_cons_self, rfl⟩
      rw [List.filterMap_cons_some (b := (a, a)) (by rw [ha]; rfl), List.map_cons, ih fun x hx => hl x (List.mem_cons_of_mem _ hx)]
  exact h _ fun x hx => List.mem_range.mp hx

/-! ### counting -/
theorem pigeon : ∀ (n : Nat) (l : List Nat), l.Nodup → (∀ a ∈ l, a < n) → l.length ≤ n
  | 0, [], _, _ => Nat.le_refl _
  | 0, a :: _, _, h => absurd (h a List.mem_cons_self) (Nat.not_lt_zero _)
  | n + 1, l, nd, h => by
    have q := pigeon n (l.erase n) (nd.erase n) fun a ha => by
      have h1 := (List.Nodup.mem_erase_iff nd).mp ha
      have h2 := h a h1.2
      omega
    have e := List.length_erase (a := n) (l := l)
    split at e <;> omega

/-! ### the row from an element -/
structure Row (n : Nat) (f : PF) (x : Nat) (r : List Nat) : Prop where
  ne : 0 < r.length
  hd : r[0]? = some x
  step : ∀ (i a : Nat), r[i]? = some a → i + 1 < r.length → f a = r[i + 1]?
  lt : ∀ a ∈ r, a < n
  nd : r.Nodup
theorem Row.one {n : Nat} {f : PF} {x : Nat} (hx : x < n) : Row n f x [x] where
  ne := Nat.one_pos
  hd := rfl
  step := fun i a _ h => by simp at h
  lt := fun a h => by rw [List.mem_singleton.mp h]; exact hx
  nd := by simp
theorem Row.len {n : Nat} {f : PF} {x : Nat} {r : List Nat} (R : Row n f x r) : r.length ≤ n := pigeon n r R.nd R.lt
theorem nd_at {l : List Nat} (hN : l.Nodup) {i j : Nat} {x : Nat} (a : l[i]? = some x) (b : l[j]? = some x) : i = j := by
  obtain ⟨h1, e1⟩ := List.getElem?_eq_some_iff.mp a
  obtain ⟨h2, e2⟩ := List.getElem?_eq_some_iff.mp b
  exact (List.getElem_inj hN).mp (e1.trans e2.symm)
theorem Row.grow {n : Nat} {f : PF} {x : Nat} {r : List Nat} (o : Ok n f) (R : Row n f x r) {a b : Nat} (ha : r[r.length - 1]? = some a) (h : f a = some b) (hb : b ≠ x) : Row n f x (r ++ [b]) where
  ne := by rw [List.length_append]; have := R.ne; omega
  hd := by rw [List.getElem?_append_left R.ne]; exact R.hd
  step := fun i c hi hl => by
    rw [List.length_append, List.length_singleton] at hl
    rw [List.getElem?_append_left (by omega)] at hi
    by_cases hl2 : i + 1 < r.length
    · rw [List.getElem?_append_left hl2]
      exact R.step i c hi hl2
    · have e : i = r.length - 1 := by omega
      subst e
      rw [ha] at hi
      cases hi
      rw [h, show r.length - 1 + 1 = r.length by omega, List.getElem?_append_right (Nat.le_refl _), Nat.sub_self]
      rfl
  lt := fun c hc => by
    rcases List.mem_append.mp hc with q | q
    · exact R.lt c q
    · rw [List.mem_singleton.mp q]; exact o.cod _ _ h
  nd := by
    refine List.nodup_append.mpr ⟨R.nd, by simp, fun u hu v hv e => ?_⟩
    rw [List.mem_singleton.mp hv] at e
    subst e
    obtain ⟨j, hj⟩ := List.getElem?_of_mem hu
    have hjl : j < r.length := (List.getElem?_eq_some_iff.mp hj).1
    cases j with
    | zero => rw [R.hd] at hj; exact hb (Option.some.inj hj).symm
    | succ j =>
      have hp : ∃ c, r[j]? = some c := ⟨r[j]'(by omega), List.getElem?_eq_getElem (by omega)⟩
      obtain ⟨c, hc⟩ := hp
      have e1 : f c = some u := by rw [R.step j c hc hjl, hj]
      have e2 := o.inj _ _ _ e1 h
      subst e2
      have := nd_at R.nd hc ha
      omega
/-- the last one leads nowhere -/
theorem Row.iter_open {n : Nat} {f : PF} {x : Nat} {r : List Nat} (R : Row n f x r) {z : Nat} (hz : r[r.length - 1]? = some z) (h : f z = none) :
    ∀ (k i a : Nat), r[i]? = some a → iter f k a = r[i + k]?
  | 0, i, a, hi => by rw [Nat.add_zero, hi]; rfl
  | k + 1, i, a, hi => by
    show (f a).bind (iter f k) = _
    have hil : i < r.length := (List.getElem?_eq_some_iff.mp hi).1
    by_cases hl : i + 1 < r.length
    · rw [R.step i a hi hl]
      have hp : r[i + 1]? = some (r[i + 1]'hl) := List.getElem?_eq_getElem hl
      rw [hp]
      show iter f k _ = _
      rw [R.iter_open hz h k (i + 1) _ hp, show i + 1 + k = i + (k + 1) by omega]
    · have e : i = r.length - 1 := by omega
      subst e
      rw [hz] at hi
      cases hi
      rw [h, List.getElem?_eq_none (by omega)]
      rfl
/-- the last one leads back to the first -/
theorem Row.iter_closed {n : Nat} {f : PF} {x : Nat} {r : List Nat} (R : Row n f x r) {z : Nat} (hz : r[r.length - 1]? = some z) (h : f z = some x) :
    ∀ (k i a : Nat), r[i]? = some a → iter f k a = r[(i + k) % r.length]?
  | 0, i, a, hi => by
    have hil : i < r.length := (List.getElem?_eq_some_iff.mp hi).1
    rw [Nat.add_zero, Nat.mod_eq_of_lt hil, hi]; rfl
  | k + 1, i, a, hi => by
    show (f a).bind (iter f k) = _
    have hil : i < r.length := (List.getElem?_eq_some_iff.mp hi).1
    by_cases hl : i + 1 < r.length
    · rw [R.step i a hi hl]
      have hp : r[i + 1]? = some (r[i + 1]'hl) := List.getElem?_eq_getElem hl
      rw [hp]
      show iter f k _ = _
      rw [R.iter_closed hz h k (i + 1) _ hp, show i + 1 + k = i + (k + 1) by omega]
    · have e : i = r.length - 1 := by omega
      subst e
      rw [hz] at hi
      cases hi
      rw [h]
      show iter f k x = _
      rw [R.iter_closed hz h k 0 x R.hd, Nat.zero_add, show r.length - 1 + (k + 1) = k + r.length by omega, Nat.add_mod_right]

/-! ### what moved finds -/
/-- seen: S; found: l -/
structure Fd (n : Nat) (f : PF) (k : Nat) (S : List Nat) (l : List (Nat × Nat)) : Prop where
  sound : ∀ p ∈ l, iter f k p.1 = some p.2
  full : ∀ x ∈ S, ∀ y, iter f k x = some y → (x, y) ∈ l
  nd : (l.map (·.1)).Nodup
  ndS : S.Nodup
  lt : ∀ x ∈ S, x < n
theorem iter_dom {n : Nat} {f : PF} (o : Ok n f) {k x y : Nat} (hk : 0 < k) (h : iter f k x = some y) : x < n := by
  obtain ⟨j, rfl⟩ : ∃ j, k = j + 1 := ⟨k - 1, by omega⟩
  have h : (f x).bind (iter f j) = some y := h
  cases e : f x with
  | none => rw [e] at h; cases h
  | some u => exact o.dom _ _ e
theorem Fd.lenS {n : Nat} {f : PF} {k : Nat} {S : List Nat} {l : List (Nat × Nat)} (F : Fd n f k S l) : S.length ≤ n := pigeon n S F.ndS F.lt
theorem Fd.len {n : Nat} {f : PF} {k : Nat} {S : List Nat} {l : List (Nat × Nat)} (o : Ok n f) (hk : 0 < k) (F : Fd n f k S l) : l.length ≤ n := by
  rw [← List.length_map (f := (·.1))]
  refine pigeon n _ F.nd fun a ha => ?_
  obtain ⟨p, hp, rfl⟩ := List.mem_map.mp ha
  exact iter_dom o hk (F.sound p hp)
theorem Fd.zero {n : Nat} {f : PF} {k : Nat} : Fd n f k [] [] := ⟨fun p h => (nomatch h), fun x h => (nomatch h), by simp, by simp, fun x h => (nomatch h)⟩
/-- what is found in the end -/
theorem Fd.rep {n : Nat} {f : PF} {k : Nat} {S : List Nat} {l : List (Nat × Nat)} (o : Ok n f) (hk : 0 < k) (F : Fd n f k S l) (all : ∀ x y, f x = some y → x ∈ S) : Rep l (powF n f k) := fun x y => by
  rw [pow_pos]
  constructor
  · intro h
    have q := F.sound _ h
    exact ⟨iter_dom o hk q, q⟩
  · rintro ⟨_, h⟩
    refine F.full x ?_ y h
    obtain ⟨j, rfl⟩ : ∃ j, k = j + 1 := ⟨k - 1, by omega⟩
    have h : (f x).bind (iter f j) = some y := h
    cases e : f x with
    | none => rw [e] at h; cases h
    | some u => exact all x u e
end CM

namespace CR
open PySem PySem.Spec PyProof.Rows L2
section
variable {X : Cx} {CX : CXT} {k : Nat} {C g : Addr} {fd : FuncData} {ps : List Str} {sp : Sp} {E : XK} {pins : List (Addr × Obj)} {σ : L2.St} {H : Hp} {s : Shared}
theorem inst_of {a dx : Addr} {fs : List (Str × V)} (I : Inv X pins σ H s) (h : H a = some (.ins C dx fs)) : ∃ od, PySem.W.InstAt s.heap a (PySem.W.instObj C dx) C (some od) := by
  obtain ⟨mA, O, _⟩ := ins_get I.hok h
  obtain ⟨od, J, _⟩ := O.look
  exact ⟨od, J⟩
/-- x op y by an own def, both instances of the class at C -/
def rOwn2 (C : Addr) (sp : Sp) (E : XK) : R2 := fun x y H Q => ∃ a dx fs b dy gs, x = .ref a ∧ y = .ref b ∧ H a = some (.ins C dx fs) ∧ H b = some (.ins C dy gs) ∧ sp [x, y] H Q E
theorem op_bin {op : Operator} (hc : PySem.W.selfFirst X.K C = true) (hs : PySem.W.findIn X.K (.ref C) (PySem.dunder op.info.2) = some (some (.ref g))) (hf : PySem.W.isFn X.K (.ref g) = true)
    (F : FnOk X.prog X.w X.K X.mg X.base CX k g fd ps sp) (hr : Room k X.A) (hb : Binds X.K fd ps []) (hx : Passes CX X E) : OpR X (binaryOp op) (rOwn2 C sp E) := by
  intro pins s σ H x y v u Q I rx ry h
  obtain ⟨a, dx, fs, b, dy, gs, rfl, rfl, ha, hb', q⟩ := h
  cases (show v = Value.ref a from rx)
  cases (show u = Value.ref b from ry)
  obtain ⟨od, J⟩ := inst_of I ha
  obtain ⟨od', J'⟩ := inst_of I hb'
  obtain ⟨m, hF⟩ := I.fr
  refine PySem.W.binop_K hF I.ok.mod.kin J J'.type hc hs hf ?_
  refine wpAny_mono (run_fn (us := [.ref a, .ref b]) (vs := [.ref a, .ref b]) (dvs := []) F hr hb .nil hx I (.cons rfl (.cons rfl .nil)) q) (fun w s' z => ?_) fun _ _ x => x
  obtain ⟨z', H', I', rz, qz⟩ := z
  exact SlX.cmpback rz ⟨z', H', I', rz, qz⟩
theorem op_cmp {op : CmpOp} (hop : ∀ a b, compareOp op a b = richCompare op a b) (hn : PySem.W.notFirst X.K C (.ref C) = true) (hs : PySem.W.findIn X.K (.ref C) (cmpInfo op).2.1 = some (some (.ref g))) (hf : PySem.W.isFn X.K (.ref g) = true)
    (F : FnOk X.prog X.w X.K X.mg X.base CX k g fd ps sp) (hr : Room k X.A) (hb : Binds X.K fd ps []) (hx : Passes CX X E) : OpR X (compareOp op) (rOwn2 C sp E) := by
  intro pins s σ H x y v u Q I rx ry h
  obtain ⟨a, dx, fs, b, dy, gs, rfl, rfl, ha, hb', q⟩ := h
  cases (show v = Value.ref a from rx)
  cases (show u = Value.ref b from ry)
  obtain ⟨od, J⟩ := inst_of I ha
  obtain ⟨od', J'⟩ := inst_of I hb'
  obtain ⟨m, hF⟩ := I.fr
  rw [hop]
  refine PySem.W.cmp_K (op := op) (tb := .ref C) hr.units0 hF I.ok.mod.kin J J'.type hn hs hf ?_
  refine wpAny_mono (run_fn (us := [.ref a, .ref b]) (vs := [.ref a, .ref b]) (dvs := []) F hr hb .nil hx I (.cons rfl (.cons rfl .nil)) q) (fun w s' z => ?_) fun _ _ x => x
  obtain ⟨z', H', I', rz, qz⟩ := z
  exact SlX.cmpback rz ⟨z', H', I', rz, qz⟩
/-- ~x by an own def -/
def rInv1 (C : Addr) (sp : Sp) (E : XK) : V → Hp → VK → Prop := fun x H Q => ∃ a dx fs, x = .ref a ∧ H a = some (.ins C dx fs) ∧ sp [x] H Q E
theorem un_own (hs : PySem.W.findIn X.K (.ref C) "__invert__" = some (some (.ref g))) (hf : PySem.W.isFn X.K (.ref g) = true)
    (F : FnOk X.prog X.w X.K X.mg X.base CX k g fd ps sp) (hr : Room k X.A) (hb : Binds X.K fd ps []) (hx : Passes CX X E) : UnR X (unaryOp .Invert) (rInv1 C sp E) := by
  intro pins s σ H x v Q I rx h
  obtain ⟨a, dx, fs, rfl, ha, q⟩ := h
  cases (show v = Value.ref a from rx)
  obtain ⟨od, J⟩ := inst_of I ha
  obtain ⟨m, hF⟩ := I.fr
  exact PySem.W.ksp_inv hF I.ok.mod.kin J hs hf (run_fn (us := [.ref a]) (vs := [.ref a]) (dvs := []) F hr hb .nil hx I (.cons rfl .nil) q)
/-! ### != by object.__ne__ over an own __eq__ -/
section
variable {prog : Program} {w : World} {A : Around} {E' : Value → Shared → Prop} {K : PySem.W.Frag} {x y f : Addr} {ox : Obj} {od : Option Obj}
theorem ifBound_B {M : Model} {args : List Value} {name : Str} {id B : String} {Q : Option Value → Shared → Prop} (KX : K.In s.heap) (I : PySem.W.InstAt s.heap x ox C od) (hs : PySem.W.findIn K (.ref C) name = some (some (.builtin id))) (S : Slot B name id)
    (h : wpAny M A (call (.builtin id) (.ref x :: args)) (fun v => Q (some v)) E' s) : wpAny M A (callSpecialIfBound? (.ref x) name args) Q E' s := by
  simp only [callSpecialIfBound?, bindSpecialIfBound?]
  refine wpAny_holding (wpAny_bind (wpAny_bind (wpAny_bind (I.type.here ((PySem.W.looks_findIn KX hs).here ?_)))))
  simp only [S.bind]
  refine wpAny_bind (wpAny_askSetting (wpAny_ite ?_))
  have fin : wpAny M A (call (.builtin id) ([.ref x] ++ args) >>= fun v => pure (some v)) Q E' s :=
    wpAny_bind (wpAny_mono h (fun v s' h' => wpAny_pure h') fun _ _ h' => h')
  split
  · exact wpAny_bind (wpAny_pure (wpAny_pure (by exact fin)))
  · exact wpAny_tryCatch (wpAny_bind (wpAny_pure (wpAny_pure (by exact fin))))
end
end
end CR

namespace CR
open PySem PySem.Spec PyProof.Rows L2
section
variable {prog : Program} {w : World} {A : Around} {E' : Value → Shared → Prop} {K : PySem.W.Frag} {x y f C : Addr} {ox : Obj} {od : Option Obj} {s : Shared}
/-- object.__ne__ over an own __eq__ that answers a bool -/
theorem call_ne (KX : K.In s.heap) (I : PySem.W.InstAt s.heap x ox C od) (he : PySem.W.findIn K (.ref C) "__eq__" = some (some (.ref f))) (hf : PySem.W.isFn K (.ref f) = true) (hm : PySem.W.mroIn K C (.type "object") = some true)
    (hu : A.units + 1 < cLine) {Q : Value → Shared → Prop}
    (h : wpAny (model prog w) A.in1 (call (.ref f) [.ref x, .ref y]) (fun v s' => ∃ b, v = .bool b ∧ Q (.bool (!b)) s') E' s) :
    wpAny (model prog w) A (call (.builtin "object.__ne__") [.ref x, .ref y]) Q E' s := by
  refine wpAny_call (codeAny_call_builtin F.cmp_object.ne.plain F.cmpEntry_ne (PySem.W.check_slot F.cmpKind_ne F.cmpSplit_ne (I.type.andThen (PySem.W.looks_mroIn KX hm)) (F.cmpArgs_ne _ _) ?_))
  unfold Builtin.«object.__ne__»
  have ev := PySem.W.ifBound_K (M := model prog w) (A := A.in1) (name := Str.ofString "__eq__") (args := [.ref y]) (Q := fun r s' => ∃ b, r = some (.bool b) ∧ Q (.bool (!b)) s') (E := E') KX I he hf
    (wpAny_mono h (fun v s' hv => by
      obtain ⟨b, rfl, q⟩ := hv
      exact ⟨b, rfl, q⟩) fun _ _ e => e)
  have hu' : A.in1.units < cLine := hu
  repeat (first
    | with_reducible refine wpAny_cRoomFor hu' ?_
    | (refine wpAny_bind (m := callSpecialIfBound? (.ref x) (Str.ofString "__eq__") [.ref y]) (wpAny_mono ev (fun r s' hr => by
          obtain ⟨b, rfl, hq⟩ := hr
          repeat (first | exact hq | exact wpAny_pure hq | exact wpAny_truthy_bool hq | (refine wpAny_bind (m := truthy (.bool _)) (wpAny_truthy_bool ?_)) | wp_step)) fun _ _ e => e))
    | wp_step)
theorem tryCompare_ne (KX : K.In s.heap) (I : PySem.W.InstAt s.heap x ox C od) (hn : PySem.W.findIn K (.ref C) "__ne__" = some (some (.builtin "object.__ne__"))) (he : PySem.W.findIn K (.ref C) "__eq__" = some (some (.ref f))) (hf : PySem.W.isFn K (.ref f) = true)
    (hm : PySem.W.mroIn K C (.type "object") = some true) (hu : A.units + 1 < cLine) {Q : Option Value → Shared → Prop}
    (h : wpAny (model prog w) A.in1 (call (.ref f) [.ref x, .ref y]) (fun v s' => ∃ b, v = .bool b ∧ Q (some (.bool (!b))) s') E' s) :
    wpAny (model prog w) A (tryCompare (.ref x) "__ne__" (.ref y)) Q E' s := by
  unfold tryCompare
  refine wpAny_bind (ifBound_B KX I hn F.cmp_object.ne (call_ne KX I he hf hm hu (wpAny_mono h (fun v s' hv => ?_) fun _ _ e => e)))
  obtain ⟨b, rfl, q⟩ := hv
  exact ⟨b, rfl, wpAny_pure q⟩
theorem cmp_ne (KX : K.In s.heap) (I : PySem.W.InstAt s.heap x ox C od) (hb : PySem.W.Looks (model prog w) s.heap (typeOf (.ref y)) (.ref C)) (hn : PySem.W.findIn K (.ref C) "__ne__" = some (some (.builtin "object.__ne__")))
    (he : PySem.W.findIn K (.ref C) "__eq__" = some (some (.ref f))) (hf : PySem.W.isFn K (.ref f) = true)
    (hm : PySem.W.mroIn K C (.type "object") = some true) (hu : A.units + 1 < cLine) {Q : Value → Shared → Prop}
    (h : wpAny (model prog w) A.in1 (call (.ref f) [.ref x, .ref y]) (fun v s' => ∃ b, v = .bool b ∧ Q (.bool (!b)) s') E' s) :
    wpAny (model prog w) A (compareOp .NotEq (.ref x) (.ref y)) Q E' s := by
  have one : wpAny (model prog w) A (tryCompare (.ref x) (cmpInfo .NotEq).2.1 (.ref y)) (fun r s' => ∃ b, r = some (.bool b) ∧ Q (.bool b) s') E' s := by
    refine tryCompare_ne KX I hn he hf hm hu (wpAny_mono h (fun v s' hv => ?_) fun _ _ e => e)
    obtain ⟨b, rfl, q⟩ := hv
    exact ⟨b, rfl, _, rfl, q⟩
  show wpAny (model prog w) A (richCompare .NotEq (.ref x) (.ref y)) Q E' s
  unfold richCompare
  simp only [oneThing_ref]
  refine wpAny_holding (wpAny_bind (wpAny_cRoomFor (Nat.lt_of_succ_lt hu) ?_))
  refine wpAny_bind (I.type.here (wpAny_bind (hb.here ?_)))
  rw [show (Value.ref C != Value.ref C) = false from by simp]
  simp only [Bool.false_eq_true, if_false]
  refine wpAny_bind (wpAny_pure ?_)
  simp only [Bool.false_eq_true, if_false]
  refine wpAny_bind (wpAny_mono one (fun v s' hv => ?_) fun _ _ e => e)
  obtain ⟨b, rfl, q⟩ := hv
  exact wpAny_pure q
end
section
variable {X : Cx} {CX : CXT} {k : Nat} {C g : Addr} {fd : FuncData} {ps : List Str} {sp : Sp} {E : XK}
/-- x != y where the class has its own __eq__ and object's __ne__ -/
def rNeOwn (C : Addr) (sp : Sp) (E : XK) : R2 := fun x y H Q => ∃ a dx fs b dy gs, x = .ref a ∧ y = .ref b ∧ H a = some (.ins C dx fs) ∧ H b = some (.ins C dy gs) ∧ sp [x, y] H (fun v H' => ∃ b, v = .bl b ∧ Q (.bl (!b)) H') E
theorem op_neOwn (hn : PySem.W.findIn X.K (.ref C) "__ne__" = some (some (.builtin "object.__ne__"))) (he : PySem.W.findIn X.K (.ref C) "__eq__" = some (some (.ref g))) (hf : PySem.W.isFn X.K (.ref g) = true)
    (hm : PySem.W.mroIn X.K C (.type "object") = some true)
    (F : FnOk X.prog X.w X.K X.mg X.base CX0 k g fd ps sp) (hr : Room (k + 1) X.A) (hb : Binds X.K fd ps []) : OpR X (compareOp .NotEq) (rNeOwn C sp E0) := by
  intro pins s σ H x y v u Q I rx ry h
  obtain ⟨a, dx, fs, b, dy, gs, rfl, rfl, ha, hb', q⟩ := h
  cases (show v = Value.ref a from rx)
  cases (show u = Value.ref b from ry)
  obtain ⟨od, J⟩ := inst_of I ha
  obtain ⟨od', J'⟩ := inst_of I hb'
  refine cmp_ne I.kIn J J'.type hn he hf hm (hu_of hr) ?_
  have hl : ([Value.ref a, Value.ref b] : List Value).length = ps.length := F.len _ _ _ _ q
  refine wpAny_call (codeAny_mono (F.run X.A.in1 X.stack s H ⟨[.ref a, .ref b], []⟩ ([Value.ref a, Value.ref b] ++ []) [V.ref a, V.ref b] _ E0 hr.in1 I.env0.in1 (hb _ [Value.ref a, Value.ref b] I.kIn (by rw [List.append_nil]; exact hl)) (show Vals [V.ref a, V.ref b] [Value.ref a, Value.ref b] from .cons rfl (.cons rfl .nil)) q) fun r s' hq => ?_)
  cases r with
  | error er => exact False.elim hq
  | ok fl =>
    cases fl with
    | ret u =>
      obtain ⟨v, H', I3, rv, b, ev, q3⟩ := I.after hq
      subst ev
      cases rv
      exact ⟨b, rfl, .bl (!b), H', I3, rfl, q3⟩
    | next => exact False.elim hq
    | brk => exact False.elim hq
    | cont => exact False.elim hq
end
end CR

namespace CR
open PySem PySem.Spec PyProof.Rows L2
section
variable {prog : Program} {w : World} {K : Type} [DecidableEq K] {knd : KeyKind prog w K} {A : Around} {E : Value → Shared → Prop} {s : Shared}
/-- d | e of two dicts: a new one -/
theorem or_dict {a b : Addr} {kvs more : List (K × Value)} {Q : Value → Shared → Prop} (ha : (a == sysModules) = false) (hb : (b == sysModules) = false)
    (da : s.heap.DictOf knd a kvs) (db : s.heap.DictOf knd b more) (hsz : kvs.length + more.length ≤ sizeLine)
    (h : ∀ h', h'.DictOf knd s.heap.objs.size (merged kvs more) → (∀ c o, s.heap.get? c = some o → h'.get? c = some o) → Q (.ref s.heap.objs.size) { s with heap := h' }) :
    wpAny (model prog w) A (binaryOp .BitOr (.ref a) (.ref b)) Q E s := by
  refine wpAny_binaryOp_same (op := .BitOr) (T := "dict") da.typeIs db.typeIs PySem.F.fills_dict_or PySem.F.slot_dict_or (wpAny_call_entry PySem.F.slot_dict_or da.typeIs PySem.F.entry_dict_or ?_ (PySem.F.args_dict_or_2 _ _))
  obtain ⟨o, es, ep, ho, hc, hdat, hk, hp, hn⟩ := id da
  have hes : es.size ≤ sizeLine + 1 := by
    have e1 := hp.length
    have e2 : es.toList.length = es.size := by simp
    omega
  show wpAny _ _ (Builtin.Dict.dictSlotArgs "__or__" ⟨[.ref a, .ref b], []⟩ >>= _) _ _ s
  refine wpAny_bind ?_
  unfold Builtin.Dict.dictSlotArgs
  refine wpAny_bind (wpAny_notOrdered_dict da.typeIs ?_)
  show wpAny _ _ (pure (Value.ref a, Value.ref b)) _ _ s
  refine wpAny_pure ?_
  refine wpAny_bind ?_
  refine wpAny_bind (wpAny_isInstance (T := "dict") da.typeIs PySem.F.sub_dict_dict ?_)
  show wpAny _ _ (isInstance (.ref b) (.type "dict")) _ _ s
  refine wpAny_isInstance (T := "dict") db.typeIs PySem.F.sub_dict_dict ?_
  simp only [Bool.not_true, Bool.false_eq_true, if_false]
  refine wpAny_bind ?_
  have fin : ∀ es' : Array DictEntry, es' = es → wpAny (model prog w) A.in1 (holding [Value.ref s.heap.objs.size] (do
      Builtin.Dict.updateFrom "dict.__or__" (← Builtin.Dict.addrOf (Value.ref s.heap.objs.size)) (.ref b) [] (Value.ref s.heap.objs.size)))
      (fun fin s' => ∃ v, fin = .done (.ret v) ∧ v ≠ .notImplemented ∧ Q v s') E { s with heap := s.heap.push { cls := .type "dict", data := .dict es' } } := by
    rintro es' rfl
    have dn : (s.heap.push { cls := .type "dict", data := .dict es' }).DictOf knd s.heap.objs.size kvs := ⟨_, es', 0, Heap.get?_push_size _ rfl, ⟨rfl, rfl, rfl⟩, rfl, hk, hp, hn⟩
    have dbn : (s.heap.push { cls := .type "dict", data := .dict es' }).DictOf knd b more := db.push _
    have hnb : s.heap.objs.size ≠ b := by
      obtain ⟨ob, _, _, hob, _⟩ := db
      exact Ne.symm (Nat.ne_of_lt (Heap.lt_size hob))
    refine wpAny_holding ?_
    refine wpAny_bind (wpAny_pure ?_)
    unfold Builtin.Dict.updateFrom
    refine wpAny_bind (wpAny_typeOf dbn.typeIs ?_)
    rw [if_neg (by decide)]
    refine wpAny_bind ?_
    unfold Builtin.Dict.merge
    refine wpAny_bind ?_
    unfold Builtin.Dict.readDirectly
    refine wpAny_bind (wpAny_isInstance dbn.typeIs isSubtype_dict_dict ?_)
    simp only [Bool.not_true, Bool.false_eq_true, if_false]
    refine wpAny_bind (wpAny_specialOf dbn.typeIs PySem.F.slot_dict_iter.lookup (wpAny_pure ?_))
    simp only [beq_self_eq_true, if_true]
    refine wpAny_bind (wpAny_pure ?_)
    refine wpAny_mergeDict (hsz := hsz) hnb hb dn dbn fun h' hd' ho' hs' => ?_
    show wpAny _ _ (Builtin.Dict.addKeywords _ [] >>= _) _ _ _
    refine wpAny_bind (wpAny_pure (wpAny_pure ⟨_, rfl, (fun x => nomatch x), h h' hd' fun c oc ec => ?_⟩))
    exact (hs'.2 c (Nat.ne_of_lt (Heap.lt_size ec))).trans (Heap.get?_push_of_some _ ec)
  unfold Builtin.Dict.copyOf
  refine wpAny_bind (wpAny_pure ?_)
  unfold Builtin.Dict.showsAll
  rw [if_neg (by rw [ha]; exact Bool.false_ne_true)]
  refine wpAny_bind (wpAny_pure ?_)
  refine wpAny_bind (wpAny_dictEntries ho hdat ?_)
  by_cases hemp : es.isEmpty = true
  · rw [if_pos hemp]
    refine wpAny_bind (wpAny_rule (wpAny_newObj_type ?_))
    exact fin #[] (Array.isEmpty_iff.mp hemp).symm
  · rw [if_neg hemp]
    refine wpAny_bind ?_
    unfold Builtin.Dict.readDirectly
    refine wpAny_bind (wpAny_isInstance da.typeIs isSubtype_dict_dict ?_)
    simp only [Bool.not_true, Bool.false_eq_true, if_false]
    refine wpAny_bind (wpAny_specialOf da.typeIs PySem.F.slot_dict_iter.lookup (wpAny_pure ?_))
    simp only [beq_self_eq_true, if_true]
    refine wpAny_bind (wpAny_entriesForEmpty (knd := knd) ho hdat hk (wpAny_newObj_type ?_ hes))
    exact fin es rfl
end
section
variable {X : Cx}
/-- d | e -/
def rOrD : R2 := fun x y H Q => ∃ a b ks ls, x = .ref a ∧ y = .ref b ∧ Rd H a (.dK ks) ∧ Rd H b (.dK ls) ∧ ks.length + ls.length ≤ sizeLine ∧ ∀ p, H p = none → Q (.ref p) (upd H p (.dK (mergeK ks ls)))
theorem op_orD : OpR X (binaryOp .BitOr) rOrD := by
  intro pins s σ H x y v u Q I rx ry h
  obtain ⟨a, b, ks, ls, rfl, rfl, ea, eb, hz, q⟩ := h
  obtain rfl : v = Value.ref a := rx
  obtain rfl : u = Value.ref b := ry
  obtain ⟨za, ya, va, ra, da⟩ := dk_rd I.hok ea
  obtain ⟨zb, yb, vb, rb, db⟩ := dk_rd I.hok eb
  have hl : va.length + vb.length ≤ sizeLine := by rw [← ra.length, ← rb.length]; exact hz
  refine or_dict ya yb da db hl fun h' dn hk => ?_
  have hm : (s.heap.objs.size == sysModules) = false := beq_eq_false_iff_ne.mpr (Nat.ne_of_gt I.big)
  have hlen : (mergeK ks ls).length ≤ sizeLine := Nat.le_trans (length_mergeK _ _) hz
  exact ⟨.ref s.heap.objs.size, upd H s.heap.objs.size (.dK (mergeK ks ls)), I.laid (t' := s.toks) (fun c o e => hk c o e) (Nat.le_refl _)
    (show ObjOk X.prog X.w _ _ _ (.dK (mergeK ks ls)) from ⟨hlen, hm, _, KV.merge rb ra, dn⟩), rfl, q _ (I.hok.fresh (Nat.le_refl _))⟩
/-- d == e: the same pairs of flat values, or other lengths -/
def rEqDB : R2 := fun x y H Q => ∃ a b ks ls, x = .ref a ∧ y = .ref b ∧ H a = some (.dK ks) ∧ H b = some (.dK ls) ∧
  ((ks.length = ls.length ∧ (∀ p ∈ ks, valV ls p.1 = some p.2 ∧ flatB p.2 = true) ∧ Q (.bl true) H) ∨ (ks.length ≠ ls.length ∧ Q (.bl false) H))
theorem op_eqDB (hu : X.A.units < cLine) : OpR X (compareOp .Eq) rEqDB := by
  intro pins s σ H x y v u Q I rx ry h
  obtain ⟨a, b, ks, ls, rfl, rfl, ea, eb, h⟩ := h
  obtain rfl : v = Value.ref a := rx
  obtain rfl : u = Value.ref b := ry
  obtain ⟨_, ya, va, ra, da⟩ := dk_of I.hok ea
  obtain ⟨_, yb, vb, rb, db⟩ := dk_of I.hok eb
  rcases h with ⟨hlen, hp, q⟩ | ⟨hlen, q⟩
  · have hl : va.length = vb.length := by rw [← ra.length, ← rb.length]; exact hlen
    exact PySem.W.keq_eq (knd := mixKind X.prog X.w) (r := true) ya yb da db hu (fun _ => hits_all rb ra hp) (fin_bl I q (by simp [hl]))
  · have hl : va.length ≠ vb.length := by rw [← ra.length, ← rb.length]; exact hlen
    exact PySem.W.keq_eq (knd := mixKind X.prog X.w) (r := true) ya yb da db hu (fun e => absurd e hl) (fin_bl I q (by simp [hl]))
/-- cls(e, ..): the i-th slot holds the class at C -/
def tMakeL (i : Nat) (C : Addr) (sp : Sp) (E : XK) (t : TA) : TE := fun σ H Q => σ[i]? = some (some (.ref C)) ∧ t σ H fun vs H1 => ∀ x dx, H1 x = none → H1 dx = none → dx ≠ x →
  sp (.ref x :: vs) (upd (upd H1 dx (.own x)) x (.ins C dx [])) (fun v H2 => v = .non ∧ Q (.ref x) H2) E
theorem pe_makeL {CX : CXT} {k i : Nat} {f C : Addr} {fd : FuncData} {ps : List Str} {sp : Sp} {E : XK} {x : Str} {p pos : Pos} {e : Expr} {es : List Expr} {t : TA} (M : Mk X.K C f) (F : FnOk X.prog X.w X.K X.mg X.base CX k f fd ps sp) (hr : Room (k + 1) X.A)
    (hN : X.N[i]? = some x) (hv : Vis X.env.scope x) (hb : Binds X.K fd ps []) (hx : Passes CX X E) (ha : PA X (e :: es) t) (hdb : (x == ("__debug__" : Str)) = false := by decide) (hcd : (x == ("__classdict__" : Str)) = false := by decide)
    (he : starEach (e :: es) X.env = (false, eval e X.env) :: starEach es X.env := by rfl) (hpl : (backTo pos (starEach es X.env)).any (·.1) = false := by rfl) :
    PE X (.Call (.Name x p) (e :: es) [] pos) (tMakeL i C sp E t) := by
  refine ⟨fun pins s σ H Q I h => ?_⟩
  obtain ⟨hs, ht⟩ := h
  refine wpAny_Call_Name_kw (thn ((pe_var (pos := p) hN hv hdb hcd).run pins s σ H (fun v H1 => v = .ref C ∧ H1 = H) I ⟨.ref C, hs, rfl, rfl⟩) fun u s1 ⟨v, H1, I1, r1, q1⟩ => ?_)
  obtain ⟨rfl, rfl⟩ := q1
  cases r1
  refine PySem.W.callWith_K (h₀ := X.base) I.ok.mod.kin M.kp (thn (ha.run pos pins s1 σ _ _ I1 ht) fun us s2 ⟨vs, H2, I2, r, q⟩ => ⟨I2.kIn, ?_⟩) he hpl
  refine run_make (dvs := []) M F hr hb .nil hx I2 r fun x dx nx nd ne => ?_
  rw [List.append_nil]
  exact q x dx nx nd ne
/-- for k in d, d made by the iterable itself: from here on it is read, never written -/
def iKeysN (td : TE) : TI := fun σ H R => td σ H fun x H1 => ∃ d kvs, x = .ref d ∧ H1 d = some (.dK kvs) ∧ ∀ o, R (Itk d o kvs) (upd H1 d (.frz o (.dK kvs)))
theorem pi_keysN {tg e : Expr} {td : TE} (he : PE X e td) : PI X tg e (iKeysN td) := by
  refine ⟨fun pins s σ H R I h => ?_⟩
  refine thn (he.run pins s σ H _ I h) fun u s1 ⟨x, H1, I1, rx, d, kvs, ex, hd, q⟩ => ?_
  subst ex
  obtain rfl : u = Value.ref d := rx
  obtain ⟨od, I2⟩ := I1.lock hd True.intro
  have hd2 : upd H1 d (.frz od (.dK kvs)) d = some (.frz od (.dK kvs)) := upd_same
  obtain ⟨hs, hgd, hx, es, ep, vs, hdt, hsz, kv, hm⟩ := I2.frzK hd2
  refine iter_keys hs hgd hx hdt (pi_one (tk := s1.toks) I2 _ (turn_keys _ hdt) ⟨_, Heap.get?_push_size _ rfl, rfl, ?_⟩ (q od))
  rw [hsz] <;> rfl
end
end CR

namespace CR
open PySem PySem.Spec PyProof.Rows L2 CM
/-! ### the text by places -/
def top (i : Nat) : Stmt := PySem.Challenge.pw_chainmaps_k08_whole_rules_of_operators.main.body.getD i (.Pass ⟨0, 0, 0, 0⟩)
abbrev sIsInt : Stmt := top 10
abbrev sInRange : Stmt := top 11
abbrev sCheckSize : Stmt := top 12
abbrev sAreArrows : Stmt := top 13
abbrev sCommon : Stmt := top 14
abbrev sRowFrom : Stmt := top 15
abbrev sMoved : Stmt := top 16
abbrev sMap : Stmt := top 17
abbrev sInit : Stmt := inClass sMap 0
abbrev sIdentity : Stmt := inClass sMap 1
abbrev sEmpty : Stmt := inClass sMap 2
abbrev sSize : Stmt := inClass sMap 6
abbrev sArrows : Stmt := inClass sMap 7
abbrev sMul : Stmt := inClass sMap 8
abbrev sInvert : Stmt := inClass sMap 9
abbrev sPower : Stmt := inClass sMap 10
abbrev sAnd : Stmt := inClass sMap 12
abbrev sSub : Stmt := inClass sMap 13
abbrev sOr : Stmt := inClass sMap 14
abbrev sLe : Stmt := inClass sMap 15
abbrev sLt : Stmt := inClass sMap 16
abbrev sGe : Stmt := inClass sMap 17
abbrev sEq : Stmt := inClass sMap 25
abbrev sIsPart : Stmt := top 18
abbrev sFirstClash : Stmt := top 19
abbrev sHand : Stmt := top 21
abbrev sDraw : Stmt := top 22
abbrev sLawArrows : Stmt := top 23
abbrev sProducts : Stmt := top 24
abbrev sParts : Stmt := top 25
abbrev sPowers : Stmt := top 26
abbrev sLaw : Stmt := top 27

/-! ### the data -/
def kp (p : Nat × Nat) : Key × V := (Sum.inl (p.1 : Int), V.int (p.2 : Int))
/-- a dict of pairs of numbers -/
def dk (l : List (Nat × Nat)) : HO := .dK (l.map kp)
/-- a dict of numbers, each with True -/
def sk (S : List Nat) : List (Key × V) := S.map fun x : Nat => ((Sum.inl (x : Int) : Key), V.bl true)
theorem key_inj {a b : Nat} (h : (Sum.inl (a : Int) : Key) = Sum.inl (b : Int)) : a = b := by
  have := Sum.inl.inj h
  omega
theorem val_cases (x : Nat) : ∀ l : List (Nat × Nat), (∃ y, (x, y) ∈ l ∧ valV (l.map kp) (Sum.inl (x : Int)) = some (V.int (y : Int))) ∨ ((∀ y, (x, y) ∉ l) ∧ valV (l.map kp) (Sum.inl (x : Int)) = none)
  | [] => .inr ⟨fun y h => (nomatch h), rfl⟩
  | (a, b) :: r => by
    by_cases e : a = x
    · subst e
      exact .inl ⟨b, List.mem_cons_self, valV_pos rfl⟩
    · have hk : ¬ (kp (a, b)).1 = Sum.inl (x : Int) := fun z => e (key_inj z)
      rw [List.map_cons, valV_neg hk]
      rcases val_cases x r with ⟨y, h1, h2⟩ | ⟨h1, h2⟩
      · exact .inl ⟨y, List.mem_cons_of_mem _ h1, h2⟩
      · refine .inr ⟨fun y hy => ?_, h2⟩
        rcases List.mem_cons.mp hy with q | q
        · exact e (congrArg Prod.fst q).symm
        · exact h1 y q
theorem val_eq {l : List (Nat × Nat)} {f : PF} (r : Rep l f) (x : Nat) : valV (l.map kp) (Sum.inl (x : Int)) = (f x).map fun y : Nat => V.int (y : Int) := by
  rcases val_cases x l with ⟨y, h1, h2⟩ | ⟨h1, h2⟩
  · rw [h2, (r x y).mp h1]; rfl
  · rw [h2]
    cases e : f x with
    | none => rfl
    | some y => exact absurd ((r x y).mpr e) (h1 y)
theorem seen_val (x : Nat) : ∀ S : List Nat, (valV (sk S) (Sum.inl (x : Int))).isSome = decide (x ∈ S)
  | [] => by simp [sk, valV]
  | a :: r => by
    by_cases e : a = x
    · subst e
      rw [show sk (a :: r) = ((Sum.inl (a : Int) : Key), V.bl true) :: sk r from rfl, valV_pos rfl]
      simp
    · have hk : ¬ ((Sum.inl (a : Int) : Key), V.bl true).1 = Sum.inl (x : Int) := fun z => e (key_inj z)
      rw [show sk (a :: r) = ((Sum.inl (a : Int) : Key), V.bl true) :: sk r from rfl, valV_neg hk, seen_val x r]
      have : ¬ x = a := fun z => e z.symm
      simp [this]
theorem seen_put (S : List Nat) (x : Nat) : ∃ S', putK (sk S) (Sum.inl (x : Int)) (.bl true) = sk S' ∧ (S.Nodup → S'.Nodup) ∧ ∀ z, z ∈ S' ↔ z ∈ S ∨ z = x := by
  by_cases h : x ∈ S
  · refine ⟨S, ?_, id, fun z => ⟨.inl, fun q => q.elim id fun e => e ▸ h⟩⟩
    unfold putK
    rw [valV_any, seen_val, decide_eq_true h, if_pos rfl]
    unfold sk
    rw [List.map_map]
    refine List.map_congr_left fun a _ => ?_
    show (if (Sum.inl (a : Int) : Key) = Sum.inl (x : Int) then ((Sum.inl (a : Int) : Key), V.bl true) else ((Sum.inl (a : Int) : Key), V.bl true)) = _
    split <;> rfl
  · refine ⟨S ++ [x], ?_, fun nd => ?_, fun z => by simp⟩
    · have e : valV (sk S) (Sum.inl (x : Int)) = none := by
        have := seen_val x S
        rw [decide_eq_false h] at this
        cases q : valV (sk S) (Sum.inl (x : Int)) with
        | none => rfl
        | some v => rw [q] at this; cases this
      rw [putK_new _ e]
      unfold sk
      rw [List.map_append]
      rfl
    · exact nd_snoc nd h
theorem Fd_put {n : Nat} {f : PF} {k : Nat} {S : List Nat} {l : List (Nat × Nat)} (F : Fd n f k S l) {x y : Nat} (h : iter f k x = some y) :
    ∃ l', putK (l.map kp) (Sum.inl (x : Int)) (.int (y : Int)) = l'.map kp ∧ Fd n f k S l' ∧ (x, y) ∈ l' ∧ ∀ p ∈ l, p ∈ l' := by
  rcases val_cases x l with ⟨y', h1, h2⟩ | ⟨h1, h2⟩
  · have e : y' = y := Option.some.inj ((F.sound _ h1).symm.trans h)
    subst e
    refine ⟨l, ?_, F, h1, fun p hp => hp⟩
    unfold putK
    rw [valV_any, h2]
    rw [show (some (V.int (y' : Int))).isSome = true from rfl, if_pos rfl, List.map_map]
    refine List.map_congr_left fun a ha => ?_
    show (if (kp a).1 = Sum.inl (x : Int) then ((kp a).1, V.int (y' : Int)) else kp a) = kp a
    by_cases q : (kp a).1 = Sum.inl (x : Int)
    · rw [if_pos q]
      have ex : a.1 = x := key_inj q
      have e2 := F.sound _ ha
      rw [ex, h] at e2
      have e3 := Option.some.inj e2
      unfold kp
      rw [e3]
    · rw [if_neg q]
  · refine ⟨l ++ [(x, y)], ?_, ⟨fun p hp => ?_, fun z hz w hw => List.mem_append_left _ (F.full z hz w hw), ?_, F.ndS, F.lt⟩, by simp, fun p hp => List.mem_append_left _ hp⟩
    · rw [putK_new _ h2, List.map_append]
      rfl
    · rcases List.mem_append.mp hp with q | q
      · exact F.sound p q
      · rw [List.mem_singleton.mp q]; exact h
    · rw [List.map_append]
      refine nd_snoc F.nd fun m => ?_
      obtain ⟨p, hp, e⟩ := List.mem_map.mp m
      have e : p.1 = x := e
      exact h1 p.2 (by rw [← e]; exact hp)
theorem flat_kp (l : List (Nat × Nat)) : ∀ p ∈ l.map kp, flatB p.2 = true := fun p hp => by
  obtain ⟨a, _, rfl⟩ := List.mem_map.mp hp
  rfl
theorem le_line {n : Nat} (h : n ≤ 1000) : n ≤ sizeLine := Nat.le_of_lt (small1000 h)

/-! ### a map's object -/
theorem sa_ : ¬ (("own_size" : Str) = "own_arrows") := by decide +kernel
theorem as_ : ¬ (("own_arrows" : Str) = "own_size") := by decide +kernel
def mf (n : Nat) (d : Addr) : List (Str × V) := putF "own_arrows" (.ref d) (putF "own_size" (.int (n : Int)) [])
theorem mf_size (n : Nat) (d : Addr) : (mf n d).lookup ("own_size" : Str) = some (.int (n : Int)) := by
  unfold mf
  rw [lookup_putF, if_neg sa_, lookup_putF, if_pos rfl]
theorem mf_arrows (n : Nat) (d : Addr) : (mf n d).lookup ("own_arrows" : Str) = some (.ref d) := by
  unfold mf
  rw [lookup_putF, if_pos rfl]
theorem mf_no (n : Nat) (d : Addr) {m : Str} (h1 : ¬ m = "own_size") (h2 : ¬ m = "own_arrows") : (mf n d).lookup m = none := by
  unfold mf
  rw [lookup_putF, if_neg h2, lookup_putF, if_neg h1]
  all_goals rfl
/-- at a stands a map of size n with the arrows f -/
structure MapAt (C : Addr) (H : Hp) (a : Addr) (n : Nat) (f : PF) : Prop where
  ok : Ok n f
  lo : 1 ≤ n
  hi : n ≤ 300
  ob : ∃ dx d, H a = some (.ins C dx (mf n d)) ∧ H d = some (dk (arr n f))
theorem MapAt.same {C : Addr} {H H' : Hp} {a : Addr} {n : Nat} {f : PF} (m : MapAt C H a n f) (s : Same H H') : MapAt C H' a n f :=
  ⟨m.ok, m.lo, m.hi, let ⟨dx, d, h1, h2⟩ := m.ob; ⟨dx, d, s _ _ h1, s _ _ h2⟩⟩
theorem arr_len {n : Nat} {f : PF} (h : n ≤ 300) : (arr n f).length ≤ 300 := Nat.le_trans (length_arr n f) h
theorem arrk_len {n : Nat} {f : PF} (h : n ≤ 300) : ((arr n f).map kp).length ≤ 300 := by rw [List.length_map]; exact arr_len h

/-! ### heaps -/
theorem same_upd {H : Hp} {p : Addr} {o : HO} (h : H p = none) : Same H (upd H p o) := fun b u e => by rw [upd_ne (ne_of_none e h)]; exact e
theorem same_upd' {H H1 : Hp} {p : Addr} {o : HO} (x : Same H H1) (h : H1 p = none) : Same H (upd H1 p o) := x.trans (same_upd h)
/-- behind a lock -/
theorem same_unlock {H H' : Hp} {d : Addr} {o : Obj} {u : HO} (h : H d = some u) (s : Same (upd H d (.frz o u)) H') : Same H (upd H' d u) := fun b v e => by
  by_cases q : b = d
  · subst q
    rw [upd_same, ← h]
    exact e
  · rw [upd_ne q]
    exact s b v (by rw [upd_ne q]; exact e)
theorem lock_self {H : Hp} {d : Addr} {o : Obj} {u : HO} : upd H d (.frz o u) d = some (.frz o u) := upd_same
theorem lock_none {H : Hp} {d p : Addr} {o u : HO} (h : H d = some o) (hp : upd H d u p = none) : H p = none ∧ p ≠ d := by
  by_cases q : p = d
  · subst q; rw [upd_same] at hp; cases hp
  · rw [upd_ne q] at hp; exact ⟨hp, q⟩

/-! ### loops over any iterator -/
theorem for_any {J : It} {g : TG} {tb : TS} {D : Ends} {σ : L2.St} {H : Hp} (n : Nat) (Pv : Nat → L2.St → Hp → Prop) (h0 : Pv 0 σ H) (hgo : ∀ i σ H, i < n → Pv i σ H → J.go i H)
    (hs : ∀ i σ H x H', i < n → Pv i σ H → J.yld i H x H' → g x σ H' fun σ2 H2 => tb { D with nx := Pv (i + 1), ct := Pv (i + 1), bk := D.nx } σ2 H2) (hd : ∀ σ H, Pv n σ H → J.stop n H ∧ D.nx σ H) :
    ∃ W : Nat → Nat → L2.St → Hp → Prop, (∃ m, W 0 m σ H) ∧ ∀ i m σ H, W i m σ H →
      (J.stop i H ∧ D.nx σ H) ∨ (J.go i H ∧ ∃ N : L2.St → Hp → Prop, (∀ σ' H', N σ' H' → ∃ m', m' < m ∧ W (i + 1) m' σ' H') ∧ ∀ x H', J.yld i H x H' → g x σ H' fun σ2 H2 => tb { D with nx := N, ct := N, bk := D.nx } σ2 H2) := by
  refine ⟨fun i m σ H => m = n - i ∧ i ≤ n ∧ Pv i σ H, ⟨n, by simp, Nat.zero_le _, h0⟩, ?_⟩
  rintro i m σ H ⟨rfl, hi, p⟩
  by_cases hlt : i < n
  · exact .inr ⟨hgo i σ H hlt p, Pv (i + 1), fun σ' H' p' => ⟨n - (i + 1), by omega, rfl, hlt, p'⟩, fun x H' y => hs i σ H x H' hlt p y⟩
  · have e : i = n := by omega
    subst e
    exact .inl (hd σ H p)
theorem dc_any {J : It} {g : TG} {tt : TT} {tk tv : TE} {vs : List Nat} {σ : L2.St} {H1 : Hp} {D : Addr} {Qd : Hp → Prop} (n : Nat) (Pv : Nat → Hp → Prop) (h0 : Pv 0 (upd H1 D (.dK []))) (hgo : ∀ i H, i < n → Pv i H → J.go i H)
    (hs : ∀ i x H H', i < n → Pv i H → J.yld i H x H' → g x (wipe σ vs) H' fun σ2 H2 => wipe σ2 vs = wipe σ vs ∧ tt σ2 H2 fun b H3 =>
      if b = true then tk σ2 H3 fun y H4 => tv σ2 H4 fun z H5 => ∃ kvs k, y = kV k ∧ H5 D = some (.dK kvs) ∧ kvs.length < sizeLine ∧ Pv (i + 1) (upd H5 D (.dK (putK kvs k z))) else Pv (i + 1) H3) (hd : ∀ H, Pv n H → J.stop n H ∧ Qd H) :
    ∃ W : Nat → Nat → Hp → Prop, (∃ m, W 0 m (upd H1 D (.dK []))) ∧ ∀ i m H, W i m H →
      (J.stop i H ∧ Qd H) ∨ (J.go i H ∧ ∃ Nx : Hp → Prop, (∀ H', Nx H' → ∃ m', m' < m ∧ W (i + 1) m' H') ∧ ∀ x H', J.yld i H x H' → g x (wipe σ vs) H' fun σ2 H2 => wipe σ2 vs = wipe σ vs ∧ tt σ2 H2 fun b H3 =>
        if b = true then tk σ2 H3 fun y H4 => tv σ2 H4 fun z H5 => ∃ kvs k, y = kV k ∧ H5 D = some (.dK kvs) ∧ kvs.length < sizeLine ∧ Nx (upd H5 D (.dK (putK kvs k z))) else Nx H3) := by
  refine ⟨fun i m H => m = n - i ∧ i ≤ n ∧ Pv i H, ⟨n, by simp, Nat.zero_le _, h0⟩, ?_⟩
  rintro i m H ⟨rfl, hi, p⟩
  by_cases hlt : i < n
  · exact .inr ⟨hgo i H hlt p, Pv (i + 1), fun H' p' => ⟨n - (i + 1), by omega, rfl, hlt, p'⟩, fun x H' y => hs i x H H' hlt p y⟩
  · have e : i = n := by omega
    subst e
    exact .inl (hd H p)
theorem lc_any {J : It} {g : TG} {tt : TT} {te : TE} {vs : List Nat} {σ : L2.St} {H1 : Hp} {D : Addr} {Qd : Hp → Prop} (n : Nat) (Pv : Nat → Hp → Prop) (h0 : Pv 0 (upd H1 D (.lst []))) (hgo : ∀ i H, i < n → Pv i H → J.go i H)
    (hs : ∀ i x H H', i < n → Pv i H → J.yld i H x H' → g x (wipe σ vs) H' fun σ2 H2 => wipe σ2 vs = wipe σ vs ∧ tt σ2 H2 fun b H3 =>
      if b = true then te σ2 H3 fun y H4 => ∃ acc, H4 D = some (.lst acc) ∧ acc.length < sizeLine ∧ Pv (i + 1) (upd H4 D (.lst (acc ++ [y]))) else Pv (i + 1) H3) (hd : ∀ H, Pv n H → J.stop n H ∧ Qd H) :
    ∃ W : Nat → Nat → Hp → Prop, (∃ m, W 0 m (upd H1 D (.lst []))) ∧ ∀ i m H, W i m H →
      (J.stop i H ∧ Qd H) ∨ (J.go i H ∧ ∃ Nx : Hp → Prop, (∀ H', Nx H' → ∃ m', m' < m ∧ W (i + 1) m' H') ∧ ∀ x H', J.yld i H x H' → g x (wipe σ vs) H' fun σ2 H2 => wipe σ2 vs = wipe σ vs ∧ tt σ2 H2 fun b H3 =>
        if b = true then te σ2 H3 fun y H4 => ∃ acc, H4 D = some (.lst acc) ∧ acc.length < sizeLine ∧ Nx (upd H4 D (.lst (acc ++ [y]))) else Nx H3) := by
  refine ⟨fun i m H => m = n - i ∧ i ≤ n ∧ Pv i H, ⟨n, by simp, Nat.zero_le _, h0⟩, ?_⟩
  rintro i m H ⟨rfl, hi, p⟩
  by_cases hlt : i < n
  · exact .inr ⟨hgo i H hlt p, Pv (i + 1), fun H' p' => ⟨n - (i + 1), by omega, rfl, hlt, p'⟩, fun x H' y => hs i x H H' hlt p y⟩
  · have e : i = n := by omega
    subst e
    exact .inl (hd H p)
end CR

namespace CR
open PySem PySem.Spec PyProof.Rows L2 CM
/-! ### defs that stand, defs that keep their promise -/
structure DefF (K : PySem.W.Frag) (x qual : Str) (st : Stmt) (f : Addr) (ps : List Str) : Prop where
  ex : ∃ fd : FuncData, Fun K x qual st f fd ∧ Binds K fd ps []
structure Good (P : Program) (w : World) (K : PySem.W.Frag) (mg : Str → Option Value) (base : Heap) (k : Nat) (f : Addr) (ps : List Str) (sp : Sp) : Prop where
  ex : ∃ fd : FuncData, FnOk P w K mg base CX0 k f fd ps sp ∧ Binds K fd ps [] ∧ PySem.W.keepIn K (.ref f) = true
section
variable {P : Program} {w : World} {K : PySem.W.Frag} {mg : Str → Option Value} {base : Heap}
theorem Good.mono {j k : Nat} {f : Addr} {ps : List Str} {sp : Sp} (G : Good P w K mg base j f ps sp) (h : j ≤ k) : Good P w K mg base k f ps sp :=
  let ⟨fd, F, b, kp⟩ := G.ex; ⟨fd, F.mono h, b, kp⟩
theorem DefF.good {x qual : Str} {st : Stmt} {f : Addr} {N ps : List Str} {k : Nat} {sp : Sp} (D : DefF K x qual st f ps) (S : FnScope N ps (defScope st)) (len : ∀ vs H Q E, sp vs H Q E → vs.length = ps.length)
    (hbody : ∀ (cdv : Value) (A : Around) (outer : List Env) (s : Shared) (H : Hp) (vs : List V) (Q : VK) (E : XK), Room k (A.deeper (envOfC qual (defScope st) s.heap.objs.size f cdv)) → sp vs H Q E →
      ∃ t, PSs (cxOf CX0 P w K mg base N qual (defScope st) f cdv A outer s H E).nox (defBody st) t ∧ t { nx := fun _ H' => Q .non H', rt := Q } (start N vs) H) : Good P w K mg base (k + 1) f ps sp := by
  obtain ⟨fd, F, b⟩ := D.ex
  exact ⟨fd, F.ok S len hbody, b, F.kp⟩
end
section
variable {X : Cx} {k : Nat} {f C p g : Addr} {ps : List Str} {sp : Sp} {x m : Str} {pp pos apos : Pos} {e o : Expr} {es : List Expr} {ta : TE} {t : TA}
theorem pe_callG (G : Good X.prog X.w X.K X.mg X.base k f ps sp) (hr : Room k X.A) (hg : Gl X x) (hm : X.mg x = some (.ref f)) (ha : PA X (e :: es) t) (hdb : (x == ("__debug__" : Str)) = false := by decide)
    (he : starEach (e :: es) X.env = (false, eval e X.env) :: starEach es X.env := by rfl) (hpl : (backTo pos (starEach es X.env)).any (·.1) = false := by rfl) : PE X (.Call (.Name x pp) (e :: es) [] pos) (tCall sp [] E0 t) := by
  obtain ⟨fd, F, b, kp⟩ := G.ex
  exact pe_call F hr hg hm kp b .nil pass0 ha hdb he hpl
theorem pe_makeG (M : Mk X.K C f) (G : Good X.prog X.w X.K X.mg X.base k f ps sp) (hr : Room (k + 1) X.A) (hg : Gl X x) (hm : X.mg x = some (.ref C)) (ha : PA X (e :: es) t) (hdb : (x == ("__debug__" : Str)) = false := by decide)
    (he : starEach (e :: es) X.env = (false, eval e X.env) :: starEach es X.env := by rfl) (hpl : (backTo pos (starEach es X.env)).any (·.1) = false := by rfl) : PE X (.Call (.Name x pp) (e :: es) [] pos) (tMake C sp [] E0 t) := by
  obtain ⟨fd, F, b, kp⟩ := G.ex
  exact pe_make M F hr hg hm b .nil pass0 ha hdb he hpl
theorem pe_makeLG {i : Nat} (M : Mk X.K C f) (G : Good X.prog X.w X.K X.mg X.base k f ps sp) (hr : Room (k + 1) X.A) (hN : X.N[i]? = some x) (hv : Vis X.env.scope x) (ha : PA X (e :: es) t) (hdb : (x == ("__debug__" : Str)) = false := by decide)
    (hcd : (x == ("__classdict__" : Str)) = false := by decide)
    (he : starEach (e :: es) X.env = (false, eval e X.env) :: starEach es X.env := by rfl) (hpl : (backTo pos (starEach es X.env)).any (·.1) = false := by rfl) : PE X (.Call (.Name x pp) (e :: es) [] pos) (tMakeL i C sp E0 t) := by
  obtain ⟨fd, F, b, kp⟩ := G.ex
  exact pe_makeL M F hr hN hv b pass0 ha hdb hcd he hpl
theorem pass0n {X : Cx} : Passes CX0 X.nox E0 := fun _ _ _ _ _ _ _ h => h.elim
theorem pe_propG (he : PE X e ta) (c : Cls X.K C) (hp : PropOf X.K C m p g) (G : Good X.prog X.w X.K X.mg X.base k g ps sp) (hr : Room (k + 1) X.A) (hab : attributeBase e m X.env (eval e X.env) = eval e X.env := by rfl) : PE X (.Attribute e m pos) (tProp C sp [] E0 ta) := by
  obtain ⟨fd, F, b, kp⟩ := G.ex
  exact pe_prop he c hp F hr b .nil pass0n hab
theorem pe_methG {pl : Sem Bool} (he : PE X o ta) (c : Cls X.K C) (hm : Meth X.K C m f) (G : Good X.prog X.w X.K X.mg X.base k f ps sp) (hr : Room k X.A) (ha : PA X (e :: es) t)
    (hst : starEach (e :: es) X.env = (false, eval e X.env) :: starEach es X.env := by rfl) (hpl : (backTo pos (starEach es X.env)).any (·.1) = false := by rfl)
    (ht : eval (.Call (.Attribute o m apos) (e :: es) [] pos) X.env = (do
      let ov ← eval o X.env
      standAt apos.atName
      let (f, first) ← holding [ov] (getMethod ov m pl)
      callWith pos f first (backTo pos (starEach (e :: es) X.env)) (backToKw pos (keywordEach [] X.env))) := by rfl) :
    PE X (.Call (.Attribute o m apos) (e :: es) [] pos) (tMeth C m sp [] E0 ta t) := by
  obtain ⟨fd, F, b, kp⟩ := G.ex
  exact pe_meth he c hm F hr b .nil pass0 ha hst hpl ht
theorem Good.r (G : Good X.prog X.w X.K X.mg X.base k f ps sp) : FnR X.prog X.w X.K X.mg X.base CX0 k f sp := by
  obtain ⟨fd, F, b, kp⟩ := G.ex
  intro A outer s H us vs Q E hr e0 r hs
  have hl : (us ++ []).length = ps.length := by rw [List.append_nil, ← r.length]; exact F.len _ _ _ _ hs
  have KX : X.K.In s.heap := e0.mod.kin.keeps fun b o e => (e0.bs b o e).1
  refine F.run A outer s H ⟨us, []⟩ (us ++ []) vs Q E hr e0 (b s us KX hl) ?_ hs
  rw [List.append_nil]
  exact r
theorem pe_cmethG {mc : Value} {pl : Sem Bool} (he : PE X o ta) (r : ClX.CRead X.K C mc) (c : ClX.CMet X.K C mc m p g) (G : Good X.prog X.w X.K X.mg X.base k g ps sp) (hr : Room k X.A) (ha : PA X (e :: es) t)
    (hst : starEach (e :: es) X.env = (false, eval e X.env) :: starEach es X.env := by rfl) (hpl : (backTo pos (starEach es X.env)).any (·.1) = false := by rfl)
    (ht : eval (.Call (.Attribute o m apos) (e :: es) [] pos) X.env = (do
      let ov ← eval o X.env
      standAt apos.atName
      let (f, first) ← holding [ov] (getMethod ov m pl)
      callWith pos f first (backTo pos (starEach (e :: es) X.env)) (backToKw pos (keywordEach [] X.env))) := by rfl) :
    PE X (.Call (.Attribute o m apos) (e :: es) [] pos) (ClX.tCMeth C sp E0 ta t) := ClX.pe_cmeth he r c G.r hr pass0 ha hst hpl ht
theorem op_binG {op : Operator} (hc : PySem.W.selfFirst X.K C = true) (hs : PySem.W.findIn X.K (.ref C) (PySem.dunder op.info.2) = some (some (.ref g))) (hf : PySem.W.isFn X.K (.ref g) = true)
    (G : Good X.prog X.w X.K X.mg X.base k g ps sp) (hr : Room k X.A) : OpR X (binaryOp op) (rOwn2 C sp E0) := by
  obtain ⟨fd, F, b, kp⟩ := G.ex
  exact op_bin hc hs hf F hr b pass0
theorem op_cmpG {op : CmpOp} (hop : ∀ a b, compareOp op a b = richCompare op a b) (hn : PySem.W.notFirst X.K C (.ref C) = true) (hs : PySem.W.findIn X.K (.ref C) (cmpInfo op).2.1 = some (some (.ref g))) (hf : PySem.W.isFn X.K (.ref g) = true)
    (G : Good X.prog X.w X.K X.mg X.base k g ps sp) (hr : Room k X.A) : OpR X (compareOp op) (rOwn2 C sp E0) := by
  obtain ⟨fd, F, b, kp⟩ := G.ex
  exact op_cmp hop hn hs hf F hr b pass0
theorem un_ownG (hs : PySem.W.findIn X.K (.ref C) "__invert__" = some (some (.ref g))) (hf : PySem.W.isFn X.K (.ref g) = true) (G : Good X.prog X.w X.K X.mg X.base k g ps sp) (hr : Room k X.A) : UnR X (unaryOp .Invert) (rInv1 C sp E0) := by
  obtain ⟨fd, F, b, kp⟩ := G.ex
  exact un_own hs hf F hr b pass0
theorem op_neOwnG (hn : PySem.W.findIn X.K (.ref C) "__ne__" = some (some (.builtin "object.__ne__"))) (he : PySem.W.findIn X.K (.ref C) "__eq__" = some (some (.ref g))) (hf : PySem.W.isFn X.K (.ref g) = true)
    (hm : PySem.W.mroIn X.K C (.type "object") = some true) (G : Good X.prog X.w X.K X.mg X.base k g ps sp) (hr : Room (k + 1) X.A) : OpR X (compareOp .NotEq) (rNeOwn C sp E0) := by
  obtain ⟨fd, F, b, kp⟩ := G.ex
  exact op_neOwn hn he hf hm F hr b
end

/-! ### where everything stands -/
structure Ad where
  C : Addr
  isInt : Addr
  inRange : Addr
  checkSize : Addr
  areArrows : Addr
  common : Addr
  rowFrom : Addr
  moved : Addr
  isPart : Addr
  firstClash : Addr
  hand : Addr
  draw : Addr
  lawArrows : Addr
  products : Addr
  parts : Addr
  powers : Addr
  law : Addr
  init : Addr
  identity : Addr
  empty : Addr
  size : Addr
  arrows : Addr
  mul : Addr
  inv : Addr
  power : Addr
  and : Addr
  sub : Addr
  or : Addr
  le : Addr
  lt : Addr
  ge : Addr
  eq : Addr
  pIdentity : Addr
  pEmpty : Addr
  pSize : Addr
  pArrows : Addr
  mc : Value
/-- a def of the module -/
structure FnF (K : PySem.W.Frag) (mg : Str → Option Value) (x : Str) (st : Stmt) (f : Addr) (ps : List Str) : Prop where
  g : mg x = some (.ref f)
  d : DefF K x x st f ps
/-- a method of Map -/
structure MeF (K : PySem.W.Frag) (C : Addr) (m q : Str) (st : Stmt) (f : Addr) (ps : List Str) : Prop where
  me : Meth K C m f
  d : DefF K m q st f ps
structure Txt (K : PySem.W.Frag) (mg : Str → Option Value) (A : Ad) : Prop where
  cl : Cls K A.C
  nS : NoAttr K A.C "own_size"
  nA : NoAttr K A.C "own_arrows"
  mke : Mk K A.C A.init
  mgC : mg "Map" = some (.ref A.C)
  mx : ∃ u, mg "MAX_SIZE" = some u ∧ RelV (.int 300) u
  isinstance : mg "isinstance" = none
  int : mg "int" = none
  bool : mg "bool" = none
  dict : mg "dict" = none
  range : mg "range" = none
  enumerate : mg "enumerate" = none
  list : mg "list" = none
  len : mg "len" = none
  abs : mg "abs" = none
  all : mg "all" = none
  max : mg "max" = none
  min : mg "min" = none
  ca : PySem.W.findIn K (.ref A.C) "__class__" = some (some (.builtin "object.__class__"))
  cn : PySem.W.specialIn K (.builtin "object.__class__") "__get__" = some (some (.builtin "getset_descriptor.__get__"))
  ct : PySem.W.takesIn K (.builtin "object.__class__") = some true
  cm : PySem.W.mroIn K A.C (.type "object") = some true
  ik : PySem.W.kitOne K (.ref A.C) (.ref A.C) = some true
  sf : PySem.W.selfFirst K A.C = true
  nf : PySem.W.notFirst K A.C (.ref A.C) = true
  ne : PySem.W.findIn K (.ref A.C) "__ne__" = some (some (.builtin "object.__ne__"))
  cr : ClX.CRead K A.C A.mc
  isIntF : FnF K mg "is_integer" sIsInt A.isInt ["value"]
  inRangeF : FnF K mg "in_range" sInRange A.inRange ["value", "least", "most"]
  checkSizeF : FnF K mg "check_size" sCheckSize A.checkSize ["size"]
  areArrowsF : FnF K mg "are_arrows" sAreArrows A.areArrows ["size", "arrows"]
  commonF : FnF K mg "common_size" sCommon A.common ["one", "other"]
  rowFromF : FnF K mg "row_from" sRowFrom A.rowFrom ["arrows", "element"]
  movedF : FnF K mg "moved" sMoved A.moved ["arrows", "steps"]
  isPartF : FnF K mg "is_part" sIsPart A.isPart ["arrows", "others"]
  firstClashF : FnF K mg "first_clash" sFirstClash A.firstClash ["arrows", "others"]
  handF : FnF K mg "_law_hand" sHand A.hand ["_law_script", "_law_k"]
  drawF : FnF K mg "_law_draw" sDraw A.draw ["_law_pool", "_law_size"]
  lawArrowsF : FnF K mg "_law_arrows" sLawArrows A.lawArrows ["_law_pool", "_law_size", "_law_way"]
  productsF : FnF K mg "_law_products" sProducts A.products ["_law_one", "_law_other", "_law_last"]
  partsF : FnF K mg "_law_parts" sParts A.parts ["_law_one", "_law_other", "_law_last"]
  powersF : FnF K mg "_law_powers" sPowers A.powers ["_law_pool", "_law_one"]
  initF : DefF K "__init__" "Map.__init__" sInit A.init ["self", "size", "arrows"]
  identityF : DefF K "identity" "Map.identity" sIdentity A.identity ["cls", "size"]
  identityC : ClX.CMet K A.C A.mc "identity" A.pIdentity A.identity
  emptyF : DefF K "empty" "Map.empty" sEmpty A.empty ["cls", "size"]
  emptyC : ClX.CMet K A.C A.mc "empty" A.pEmpty A.empty
  sizeF : DefF K "size" "Map.size" sSize A.size ["self"]
  sizeP : PropOf K A.C "size" A.pSize A.size
  arrowsF : DefF K "arrows" "Map.arrows" sArrows A.arrows ["self"]
  arrowsP : PropOf K A.C "arrows" A.pArrows A.arrows
  mulF : MeF K A.C "__mul__" "Map.__mul__" sMul A.mul ["self", "other"]
  invF : MeF K A.C "__invert__" "Map.__invert__" sInvert A.inv ["self"]
  powerF : MeF K A.C "power" "Map.power" sPower A.power ["self", "exponent"]
  andF : MeF K A.C "__and__" "Map.__and__" sAnd A.and ["self", "other"]
  subF : MeF K A.C "__sub__" "Map.__sub__" sSub A.sub ["self", "other"]
  orF : MeF K A.C "__or__" "Map.__or__" sOr A.or ["self", "other"]
  leF : MeF K A.C "__le__" "Map.__le__" sLe A.le ["self", "other"]
  ltF : MeF K A.C "__lt__" "Map.__lt__" sLt A.lt ["self", "other"]
  geF : MeF K A.C "__ge__" "Map.__ge__" sGe A.ge ["self", "other"]
  eqF : MeF K A.C "__eq__" "Map.__eq__" sEq A.eq ["self", "other"]
/-- isinstance asked of a map -/
theorem ty_map {K : PySem.W.Frag} {mg : Str → Option Value} {A : Ad} (T : Txt K mg A) {H : Hp} {a dx : Addr} {fs : List (Str × V)} (h : H a = some (.ins A.C dx fs)) : TyX K H (.ref a) (.ref A.C) :=
  .base (.ins h T.cl T.ca T.cn T.ct T.cm)
end CR

namespace CR
open PySem PySem.Spec PyProof.Rows L2 CM
section
variable {P : Program} {w : World} {K : PySem.W.Frag} {mg : Str → Option Value} {base : Heap} {A : Ad}
/-- a constant of the module -/
theorem pe_const {X : Cx} {x : PySem.Str} {v : V} {pos : Pos} (hg : Gl X x) (h : ∃ u, X.mg x = some u ∧ RelV v u) (hd : (x == ("__debug__" : PySem.Str)) = false := by decide) : PE X (.Name x pos) (tC v) := by
  obtain ⟨u, h1, h2⟩ := h
  exact pe_glob hg h1 h2 hd
/-! ### is_integer, in_range, check_size -/
def spIsInt : Sp := fun vs H Q _ => ∃ i : Int, vs = [.int i] ∧ Q (.bl true) H
theorem scIsInt : FnScope ["value"] ["value"] (defScope sIsInt) := ⟨rfl, rfl, rfl, by decide +kernel, rfl, by decide +kernel, by decide +kernel⟩
theorem ok_isInt (T : Txt K mg A) : Good P w K mg base 1 A.isInt ["value"] spIsInt := by
  refine T.isIntF.d.good scIsInt (fun vs H Q E h => ?_) (fun cdv B outer s H vs Q E hr h => ?_)
  · obtain ⟨i, rfl, _⟩ := h
    rfl
  · obtain ⟨i, rfl, q⟩ := h
    refine ⟨_, pss_one (ps_ret (pe_and (pe_callB call_isi (by rfl) T.isinstance boot_isinstance (pa_cons (pv 0) (pa_cons (pe_bltn (v := .ty "int") (by rfl) T.int boot_int rfl) pa_nil)))
      (pe_one (pe_not (pe_callB call_isi (by rfl) T.isinstance boot_isinstance (pa_cons (pv 0) (pa_cons (pe_bltn (v := .ty "bool") (by rfl) T.bool boot_bool rfl) pa_nil))))))), ?_⟩
    refine ⟨_, rfl, .int i, .ty "int", .type "int", .type "int", true, rfl, .ty _, .base (.int i), kit_ty (by decide +kernel), _, rfl, iteT ?_⟩
    exact ⟨_, rfl, .int i, .ty "bool", .type "int", .type "bool", false, rfl, .ty _, .base (.int i), kit_ty (by decide +kernel), _, rfl, q⟩
def spInRange : Sp := fun vs H Q _ => ∃ v a b : Int, vs = [.int v, .int a, .int b] ∧ Q (.bl (decide (a ≤ v ∧ v ≤ b))) H
theorem scInRange : FnScope ["value", "least", "most"] ["value", "least", "most"] (defScope sInRange) := ⟨rfl, rfl, rfl, by decide +kernel, rfl, by decide +kernel, by decide +kernel⟩
theorem ok_inRange (T : Txt K mg A) : Good P w K mg base 2 A.inRange ["value", "least", "most"] spInRange := by
  refine T.inRangeF.d.good scInRange (fun vs H Q E h => ?_) (fun cdv B outer s H vs Q E hr h => ?_)
  · obtain ⟨v, a, b, rfl, _⟩ := h
    rfl
  · obtain ⟨v, a, b, rfl, q⟩ := h
    refine ⟨_, pss_one (ps_ret (pe_and (pe_callG (ok_isInt T) hr (by rfl) T.isIntF.g (pa_cons (pv 0) pa_nil)) (pe_one (pe_chain op_le op_le (pv 1) (pv 0) (pv 2))))), ?_⟩
    refine ⟨_, rfl, v, rfl, true, rfl, iteT ?_⟩
    refine ⟨_, rfl, _, rfl, a, v, rfl, rfl, _, rfl, ?_⟩
    by_cases h1 : a ≤ v
    · rw [decide_eq_true h1]
      refine iteT ⟨_, rfl, v, b, rfl, rfl, ?_⟩
      show Q (V.bl (decide (v ≤ b))) H
      rw [show decide (v ≤ b) = decide (a ≤ v ∧ v ≤ b) by simp [h1]]
      exact q
    · rw [decide_eq_false h1]
      refine iteF ?_
      show Q (V.bl false) H
      rw [show false = decide (a ≤ v ∧ v ≤ b) by simp [h1]]
      exact q
def spCheckSize : Sp := fun vs H Q _ => ∃ n : Int, vs = [.int n] ∧ 1 ≤ n ∧ n ≤ 300 ∧ Q .non H
theorem scCheckSize : FnScope ["size"] ["size"] (defScope sCheckSize) := ⟨rfl, rfl, rfl, by decide +kernel, rfl, by decide +kernel, by decide +kernel⟩
theorem ok_checkSize (T : Txt K mg A) : Good P w K mg base 3 A.checkSize ["size"] spCheckSize := by
  refine T.checkSizeF.d.good scCheckSize (fun vs H Q E h => ?_) (fun cdv B outer s H vs Q E hr h => ?_)
  · obtain ⟨n, rfl, _⟩ := h
    rfl
  · obtain ⟨n, rfl, h1, h2, q⟩ := h
    refine ⟨_, pss_one (ps_if (pt_not (pt_val (pe_callG (ok_inRange T) hr (by rfl) T.inRangeF.g (pa_cons (pv 0) (pa_cons pe_int (pa_cons (pe_const (by rfl) T.mx) pa_nil)))))) (pss_one ps_never) pss_nil), ?_⟩
    refine ⟨_, rfl, n, 1, 300, rfl, _, rfl, ?_⟩
    exact iteNS ⟨h1, h2⟩ q
/-! ### properties -/
def spSize (C : Addr) : Sp := fun vs H Q _ => ∃ (a : Addr) (n : Nat) (f : PF), vs = [.ref a] ∧ MapAt C H a n f ∧ Q (.int (n : Int)) H
theorem scSize : FnScope ["self"] ["self"] (defScope sSize) := ⟨rfl, rfl, rfl, by decide +kernel, rfl, by decide +kernel, by decide +kernel⟩
theorem ok_size (T : Txt K mg A) : Good P w K mg base 1 A.size ["self"] (spSize A.C) := by
  refine T.sizeF.good scSize (fun vs H Q E h => ?_) (fun cdv B outer s H vs Q E hr h => ?_)
  · obtain ⟨a, n, f, rfl, _⟩ := h
    rfl
  · obtain ⟨a, n, f, rfl, M, q⟩ := h
    obtain ⟨dx, d, h1, h2⟩ := M.ob
    refine ⟨_, pss_one (ps_ret (pe_fld (pv 0) rfl)), ?_⟩
    exact ⟨_, rfl, a, A.C, dx, _, _, rfl, h1, T.cl, T.nS, mf_size _ _, q⟩
def spArrows (C : Addr) : Sp := fun vs H Q _ => ∃ (a : Addr) (n : Nat) (f : PF), vs = [.ref a] ∧ MapAt C H a n f ∧ ∀ p, H p = none → Q (.ref p) (upd H p (dk (arr n f)))
theorem scArrows : FnScope ["self"] ["self"] (defScope sArrows) := ⟨rfl, rfl, rfl, by decide +kernel, rfl, by decide +kernel, by decide +kernel⟩
theorem ok_arrows (T : Txt K mg A) : Good P w K mg base 1 A.arrows ["self"] (spArrows A.C) := by
  refine T.arrowsF.good scArrows (fun vs H Q E h => ?_) (fun cdv B outer s H vs Q E hr h => ?_)
  · obtain ⟨a, n, f, rfl, _⟩ := h
    rfl
  · obtain ⟨a, n, f, rfl, M, q⟩ := h
    obtain ⟨dx, d, h1, h2⟩ := M.ob
    refine ⟨_, pss_one (ps_ret (pe_callTy call_dictD (by rfl) T.dict boot_dict (pa_cons (pe_fld (pv 0) rfl) pa_nil))), ?_⟩
    exact ⟨_, rfl, a, A.C, dx, _, _, rfl, h1, T.cl, T.nA, mf_arrows _ _, d, _, rfl, .inl h2, q⟩
/-! ### common_size -/
def spCommon (C : Addr) : Sp := fun vs H Q _ => ∃ (a b : Addr) (n : Nat) (f g : PF), vs = [.ref a, .ref b] ∧ MapAt C H a n f ∧ MapAt C H b n g ∧ Q (.int (n : Int)) H
theorem scCommon : FnScope ["one", "other"] ["one", "other"] (defScope sCommon) := ⟨rfl, rfl, rfl, by decide +kernel, rfl, by decide +kernel, by decide +kernel⟩
theorem ok_common (T : Txt K mg A) : Good P w K mg base 3 A.common ["one", "other"] (spCommon A.C) := by
  refine T.commonF.d.good scCommon (fun vs H Q E h => ?_) (fun cdv B outer s H vs Q E hr h => ?_)
  · obtain ⟨a, b, n, f, g, rfl, _⟩ := h
    rfl
  · obtain ⟨a, b, n, f, g, rfl, M, N, q⟩ := h
    obtain ⟨dx, d, h1, _⟩ := M.ob
    obtain ⟨dy, e, h2, _⟩ := N.ob
    refine ⟨_, pss_cons (ps_if (pt_cmpR op_ne (pe_propG (pv 0) T.cl T.sizeP (ok_size T) hr) (pe_propG (pv 1) T.cl T.sizeP (ok_size T) hr) (nomark _)) (pss_one ps_never) pss_nil)
      (pss_one (ps_ret (pe_propG (pv 0) T.cl T.sizeP (ok_size T) hr))), ?_⟩
    refine ⟨_, rfl, a, dx, _, rfl, h1, a, n, f, rfl, M, _, rfl, b, dy, _, rfl, h2, b, n, g, rfl, N, rfl, _, rfl, ?_⟩
    refine iteNS rfl ?_
    exact ⟨_, rfl, a, dx, _, rfl, h1, a, n, f, rfl, M, q⟩
end
end CR

namespace CR
open PySem PySem.Spec PyProof.Rows L2 CM
section
variable {P : Program} {w : World} {K : PySem.W.Frag} {mg : Str → Option Value} {base : Heap} {A : Ad}
theorem same_put {H0 H : Hp} {t : Addr} {o : HO} (s : Same H0 H) (h : H0 t = none) : Same H0 (upd H t o) := fun b u e => by
  rw [upd_ne (ne_of_none e h)]
  exact s b u e
theorem kp_get {l : List (Nat × Nat)} {i : Nat} {k : Key} {v : V} (h : (l.map kp)[i]? = some (k, v)) : ∃ x y : Nat, l[i]? = some (x, y) ∧ k = Sum.inl (x : Int) ∧ v = V.int (y : Int) := by
  rw [List.getElem?_map] at h
  cases e : l[i]? with
  | none => rw [e] at h; cases h
  | some p =>
    rw [e] at h
    cases h
    exact ⟨p.1, p.2, rfl, rfl, rfl⟩
/-! ### are_arrows -/
def spAreArrows : Sp := fun vs H Q _ => ∃ (n : Nat) (d : Addr) (l : List (Nat × Nat)), vs = [.int (n : Int), .ref d] ∧ H d = some (dk l) ∧ n ≤ 300 ∧ (∀ p ∈ l, p.1 < n ∧ p.2 < n) ∧ (l.map (·.2)).Nodup ∧ ∀ H', Same H H' → Q (.bl true) H'
theorem scAreArrows : FnScope ["size", "arrows", "targets", "source", "target"] ["size", "arrows"] (defScope sAreArrows) := ⟨rfl, rfl, rfl, by decide +kernel, rfl, by decide +kernel, by decide +kernel⟩
theorem nodup_fresh {l : List (Nat × Nat)} (nd : (l.map (·.2)).Nodup) {i : Nat} {x y : Nat} (h : l[i]? = some (x, y)) : y ∉ (l.take i).map (·.2) := by
  intro m
  obtain ⟨p, hp, e⟩ := List.mem_map.mp m
  obtain ⟨j, hj⟩ := List.getElem?_of_mem hp
  have hji : j < i := by
    have := (List.getElem?_eq_some_iff.mp hj).1
    rw [List.length_take] at this
    omega
  rw [List.getElem?_take_of_lt hji] at hj
  have h1 : (l.map (·.2))[j]? = some y := by rw [List.getElem?_map, hj]; exact congrArg some e
  have h2 : (l.map (·.2))[i]? = some y := by rw [List.getElem?_map, h]; rfl
  have := nd_at nd h1 h2
  omega
theorem ok_areArrows (T : Txt K mg A) : Good P w K mg base 3 A.areArrows ["size", "arrows"] spAreArrows := by
  refine T.areArrowsF.d.good scAreArrows (fun vs H Q E h => ?_) (fun cdv B outer s H vs Q E hr h => ?_)
  · obtain ⟨n, d, l, rfl, _⟩ := h
    rfl
  · obtain ⟨n, d, l, rfl, hd, hn, hl, nd, q⟩ := h
    have hu := hu_of hr
    have sc := scAreArrows
    refine ⟨_, pss_cons (ps_if (pt_not (pt_val (pe_callB call_isi (by rfl) T.isinstance boot_isinstance (pa_cons (pv 1) (pa_cons (pe_bltn (v := .ty "dict") (by rfl) T.dict boot_dict rfl) pa_nil))))) (pss_one (ps_ret pe_bl)) pss_nil)
      (pss_cons (ps_set (i := 2) sc.nd rfl (.inl rfl) pe_dnewK)
      (pss_cons (ps_lock (ps_for PassesOwn.never rfl (pi_items (pv 1)) (pg_tup rfl (pgs_cons (pg_name (i := 3) sc.nd rfl (.inl rfl)) (pgs_cons (pg_name (i := 4) sc.nd rfl (.inl rfl)) pgs_nil)))
        (pss_cons (ps_if (PW.pt (pw_or (pt_not (pt_val (pe_callG (ok_inRange T) hr (by rfl) T.inRangeF.g (pa_cons (pv 3) (pa_cons pe_int (pa_cons (pe_op op_sub (pv 0) pe_int) pa_nil))))))
            (pw_or (pt_not (pt_val (pe_callG (ok_inRange T) hr (by rfl) T.inRangeF.g (pa_cons (pv 4) (pa_cons pe_int (pa_cons (pe_op op_sub (pv 0) pe_int) pa_nil))))))
            (pw_or1 (pt_cmp (pc_din hu (pv 4) (pv 2))))))) (pss_one (ps_ret pe_bl)) pss_nil)
        (pss_one (ps_dput hu (pv 2) (pv 4) pe_bl rfl)))))
      (pss_one (ps_ret pe_bl)))), ?_⟩
    refine ⟨_, rfl, .ref d, .ty "dict", .type "dict", .type "dict", true, rfl, .ty _, .base (.dK hd), kit_ty (by decide +kernel), _, rfl, iteF ?_⟩
    intro t ht
    have ntd : d ≠ t := ne_of_none hd ht
    refine ⟨d, dk l, by rw [upd_ne ntd]; exact hd, True.intro, fun od => ?_⟩
    -- the loop
    refine ⟨_, rfl, d, od, l.map kp, rfl, upd_same, ?_⟩
    have hL : (upd H d (.frz od (dk l))) t = none := by rw [upd_ne ntd.symm]; exact ht
    refine for_any (J := Iti d od (l.map kp)) (l.map kp).length (fun i σ H' => ∃ (S : List Nat) (a b : Option V), σ = [some (.int (n : Int)), some (.ref d), some (.ref t), a, b] ∧ Same (upd H d (.frz od (dk l))) H' ∧ H' t = some (.dK (sk S)) ∧ S.Nodup ∧
      (∀ z, z ∈ S ↔ z ∈ (l.take i).map (·.2))) ⟨[], none, none, rfl, ?_, ?_, List.nodup_nil, fun z => by simp⟩ (fun i σ H' hi ⟨S, a, b, _, s0, _⟩ => ⟨s0 _ _ upd_same, hi⟩) ?_ ?_
    · intro b u e
      by_cases q : b = d
      · subst q; rw [upd_same] at e ⊢; exact e
      · rw [upd_ne q] at e
        rw [upd_ne q, upd_ne (ne_of_none e ht)]
        exact e
    · rw [upd_ne ntd.symm, upd_same]; rfl
    · rintro i σ H' x H2 hi ⟨S, a, b, rfl, s0, hS, ndS, hm⟩ ⟨U, k, v, hkv, rfl, hU, rfl⟩
      obtain ⟨x, y, hxy, rfl, rfl⟩ := kp_get hkv
      have hb := hl _ (List.mem_of_getElem? hxy)
      have nUt : t ≠ U := ne_of_none hS hU
      refine ⟨U, _, rfl, SqT.of upd_same, rfl, _, _, rfl, _, _, rfl, rfl, ?_⟩
      -- not in_range(source, 0, size - 1)
      refine ⟨_, rfl, _, rfl, _, _, rfl, rfl, (x : Int), 0, (n : Int) - 1, rfl, _, rfl, ?_⟩
      rw [decide_eq_true (show (0 : Int) ≤ (x : Int) ∧ (x : Int) ≤ (n : Int) - 1 from ⟨by omega, by have := hb.1; omega⟩)]
      refine iteF ?_
      refine ⟨_, rfl, _, rfl, _, _, rfl, rfl, (y : Int), 0, (n : Int) - 1, rfl, _, rfl, ?_⟩
      rw [decide_eq_true (show (0 : Int) ≤ (y : Int) ∧ (y : Int) ≤ (n : Int) - 1 from ⟨by omega, by have := hb.2; omega⟩)]
      refine iteF ?_
      have hS2 : (upd H' U (.tup [kV (Sum.inl (x : Int)), V.int (y : Int)])) t = some (.dK (sk S)) := by rw [upd_ne nUt]; exact hS
      refine ⟨_, rfl, _, rfl, t, _, rfl, DGet.k (k := Sum.inl (y : Int)) hS2, _, rfl, ?_⟩
      have hy : y ∉ S := fun m => nodup_fresh nd hxy ((hm y).mp m)
      rw [seen_val, decide_eq_false hy]
      refine iteF ?_
      obtain ⟨S', e1, e2, e3⟩ := seen_put S y
      have hlen : S.length ≤ n := pigeon n S ndS fun z hz => by
        obtain ⟨p, hp, e⟩ := List.mem_map.mp ((hm z).mp hz)
        rw [← e]
        exact (hl p (List.mem_of_mem_take hp)).2
      refine ⟨_, rfl, _, rfl, t, _, rfl, DPut.k (k := Sum.inl (y : Int)) hS2 (small1000 (by unfold sk; rw [List.length_map]; omega)), ?_⟩
      refine ⟨S', _, _, rfl, same_put (same_upd' s0 hU) hL, by rw [upd_same, e1], e2 ndS, fun z => ?_⟩
      rw [e3, hm, List.take_add_one, hxy]
      simp
    · rintro σ H' ⟨S, a, b, rfl, s0, hS, ndS, hm⟩
      refine ⟨⟨s0 _ _ upd_same, Nat.le_refl _⟩, s0 _ _ upd_same, q _ (same_unlock hd s0)⟩
end
end CR

namespace CR
open PySem PySem.Spec PyProof.Rows L2 CM
section
variable {P : Program} {w : World} {K : PySem.W.Frag} {mg : Str → Option Value} {base : Heap} {A : Ad}
theorem val_arr {n : Nat} {f : PF} (o : Ok n f) (x : Nat) : valV ((arr n f).map kp) (Sum.inl (x : Int)) = (f x).map fun y : Nat => V.int (y : Int) := val_eq (rep_arr o) x
theorem dget {H : Hp} {d : Addr} {n : Nat} {f : PF} (o : Ok n f) (h : H d = some (dk (arr n f))) (x : Nat) : DGet H d (V.int (x : Int)) ((f x).map fun y : Nat => V.int (y : Int)) := by
  rw [← val_arr o]
  exact DGet.k (k := Sum.inl (x : Int)) h
theorem getD_eq (o : Option Nat) (y : Nat) : decide ((o.map fun y : Nat => V.int (y : Int)).getD V.non = V.int (y : Int)) = decide (o = some y) := by
  cases o with
  | none => simp
  | some z =>
    show decide (V.int (z : Int) = V.int (y : Int)) = decide (some z = some y)
    by_cases e : z = y
    · subst e; simp
    · have h1 : ¬ V.int (z : Int) = V.int (y : Int) := fun q => e (by injection q with q; omega)
      have h2 : ¬ some z = some y := fun q => e (Option.some.inj q)
      rw [decide_eq_false h1, decide_eq_false h2]
theorem getD_scal (o : Option Nat) (y : Nat) : scal ((o.map fun y : Nat => V.int (y : Int)).getD V.non) (V.int (y : Int)) = true := by cases o <;> rfl
/-! ### is_part -/
def spIsPart : Sp := fun vs H Q _ => ∃ (d e : Addr) (n : Nat) (f g : PF), vs = [.ref d, .ref e] ∧ H d = some (dk (arr n f)) ∧ H e = some (dk (arr n g)) ∧ Ok n f ∧ Ok n g ∧ n ≤ 300 ∧ d ≠ e ∧
  ∀ (b : Bool) H', Same H H' → (b = true ↔ leF f g) → Q (.bl b) H'
theorem scIsPart : FnScope ["arrows", "others", "source", "target"] ["arrows", "others"] (defScope sIsPart) := ⟨rfl, rfl, rfl, by decide +kernel, rfl, by decide +kernel, by decide +kernel⟩
theorem all_le {n : Nat} {f g : PF} (o : Ok n f) : ((arr n f).map fun p => decide (g p.1 = some p.2)).all id = true ↔ leF f g := by
  rw [List.all_eq_true]
  constructor
  · intro h x y e
    have q := h (decide (g x = some y)) (List.mem_map.mpr ⟨(x, y), (rep_arr o x y).mpr e, rfl⟩)
    exact of_decide_eq_true q
  · intro h b hb
    obtain ⟨p, hp, rfl⟩ := List.mem_map.mp hb
    exact decide_eq_true (h _ _ ((rep_arr o p.1 p.2).mp hp))
theorem ok_isPart (T : Txt K mg A) : Good P w K mg base 1 A.isPart ["arrows", "others"] spIsPart := by
  refine T.isPartF.d.good scIsPart (fun vs H Q E h => ?_) (fun cdv B outer s H vs Q E hr h => ?_)
  · obtain ⟨d, e, n, f, g, rfl, _⟩ := h
    rfl
  · obtain ⟨d, e, n, f, g, rfl, hd, he, of, og, hn, nde, q⟩ := h
    have hu := hu_of hr
    have sc := scIsPart
    refine ⟨_, pss_one (ps_ret (pe_callB (cr_all rfl) (by rfl) T.all (by decide +kernel) (pa_cons (pe_lock (pe_lc (own := [("source", 2), ("target", 3)]) (g := gTup K 2 (gCons (gName 2) (gCons (gName 3) gNil))) (tt := tYes) rfl sc.nd (pi_items (pv 0))
      (blkOk_by (N := ["arrows", "others", "source", "target"]) (sc := defScope sIsPart) (by decide +kernel))
      (fun _ _ _ _ _ => pg_tup rfl (pgs_cons (pg_name (i := 2) sc.nd rfl (.inl rfl)) (pgs_cons (pg_name (i := 3) sc.nd rfl (.inl rfl)) pgs_nil))) (fun _ _ _ _ _ => pts_nil)
      (fun _ _ _ _ _ => pe_cmpR op_eq (pe_dget1 hu (pv 1) (pv 2) ⟨rfl, rfl, rfl, rfl⟩) (pv 3) (nomark _)))) pa_nil))), ?_⟩
    refine ⟨d, dk (arr n f), hd, True.intro, fun od => ?_⟩
    refine ⟨_, rfl, d, od, (arr n f).map kp, rfl, upd_same, fun D hD => ?_⟩
    obtain ⟨hD0, nDd⟩ := lock_none hd hD
    refine lc_any (J := Iti d od ((arr n f).map kp)) ((arr n f).map kp).length (fun i H' => Same (upd H d (.frz od (dk (arr n f)))) H' ∧ H' D = some (.lst (((arr n f).take i).map fun p => V.bl (decide (g p.1 = some p.2)))))
      ⟨same_upd hD, by rw [upd_same]; rfl⟩ (fun i H' hi ⟨s0, _⟩ => ⟨s0 _ _ upd_same, hi⟩) ?_ ?_
    · rintro i x H' H2 hi ⟨s0, hl⟩ ⟨U, k, v, hkv, rfl, hU, rfl⟩
      obtain ⟨x, y, hxy, rfl, rfl⟩ := kp_get hkv
      have nDU : D ≠ U := ne_of_none hl hU
      have s1 := same_upd' s0 hU (o := .tup [kV (Sum.inl (x : Int)), V.int (y : Int)])
      have he2 := s1 e (dk (arr n g)) (by rw [upd_ne nde.symm]; exact he)
      refine ⟨U, _, rfl, SqT.of upd_same, rfl, _, _, rfl, _, _, rfl, rfl, rfl, ?_⟩
      refine ⟨_, rfl, e, rfl, .inl ⟨_, .inl he2⟩, _, rfl, _, dget og he2 x, _, rfl, getD_scal _ _, ?_⟩
      rw [getD_eq]
      refine ⟨_, by rw [upd_ne nDU]; exact hl, small1000 (by rw [List.length_map, List.length_take]; have := arr_len (f := f) hn; omega), same_put s1 hD, ?_⟩
      rw [upd_same, List.take_add_one, hxy, List.map_append]
      rfl
    · rintro H' ⟨s0, hl⟩
      refine ⟨⟨s0 _ _ upd_same, Nat.le_refl _⟩, s0 _ _ upd_same, ?_⟩
      rw [List.length_map, List.take_length] at hl
      refine ⟨D, (arr n f).map fun p => decide (g p.1 = some p.2), rfl, SqL.of ?_, ?_⟩
      · rw [upd_ne nDd, hl, List.map_map]
        rfl
      · exact q _ _ (same_unlock hd s0) (all_le of)
end
end CR

namespace CR
open PySem PySem.Spec PyProof.Rows L2 CM
section
variable {P : Program} {w : World} {K : PySem.W.Frag} {mg : Str → Option Value} {base : Heap} {A : Ad}
/-! ### first_clash, where nothing clashes -/
def spFirstClash : Sp := fun vs H Q _ => ∃ (d e : Addr) (n : Nat) (f g : PF), vs = [.ref d, .ref e] ∧ H d = some (dk (arr n f)) ∧ H e = some (dk (arr n g)) ∧ Ok n f ∧ Ok n g ∧ d ≠ e ∧
  (∀ x y u v, f x = some y → g u = some v → (x = u ↔ y = v)) ∧ ∀ H', Same H H' → Q .non H'
theorem scFirstClash : FnScope ["arrows", "others", "source", "target", "other", "end"] ["arrows", "others"] (defScope sFirstClash) := ⟨rfl, rfl, rfl, by decide +kernel, rfl, by decide +kernel, by decide +kernel⟩
theorem dec_kV (x u : Nat) : decide (kV (Sum.inl (x : Int)) = kV (Sum.inl (u : Int))) = decide (x = u) := by
  show decide (V.int (x : Int) = V.int (u : Int)) = decide (x = u)
  by_cases e : x = u
  · subst e; simp
  · have h1 : ¬ V.int (x : Int) = V.int (u : Int) := fun q => e (by injection q with q; omega)
    rw [decide_eq_false h1, decide_eq_false e]
theorem ok_firstClash (T : Txt K mg A) : Good P w K mg base 1 A.firstClash ["arrows", "others"] spFirstClash := by
  refine T.firstClashF.d.good scFirstClash (fun vs H Q E h => ?_) (fun cdv B outer s H vs Q E hr h => ?_)
  · obtain ⟨d, e, n, f, g, rfl, _⟩ := h
    rfl
  · obtain ⟨d, e, n, f, g, rfl, hd, he, of, og, nde, nc, q⟩ := h
    have sc := scFirstClash
    refine ⟨_, pss_cons (ps_lock (ps_for PassesOwn.never rfl (pi_items (pv 0)) (pg_tup rfl (pgs_cons (pg_name (i := 2) sc.nd rfl (.inl rfl)) (pgs_cons (pg_name (i := 3) sc.nd rfl (.inl rfl)) pgs_nil)))
      (pss_one (ps_lock (ps_for PassesOwn.never rfl (pi_items (pv 1)) (pg_tup rfl (pgs_cons (pg_name (i := 4) sc.nd rfl (.inl rfl)) (pgs_cons (pg_name (i := 5) sc.nd rfl (.inl rfl)) pgs_nil)))
        (pss_one (ps_if (pt_cmpR op_ne (pe_cmpR op_eq (pv 2) (pv 4) (nomark _)) (pe_cmpR op_eq (pv 3) (pv 5) (nomark _)) (nomark _)) (pss_one ps_never) pss_nil)))))))
      (pss_one (ps_ret pe_non)), ?_⟩
    refine ⟨d, dk (arr n f), hd, True.intro, fun od => ?_⟩
    refine ⟨_, rfl, d, od, (arr n f).map kp, rfl, upd_same, ?_⟩
    refine for_any (J := Iti d od ((arr n f).map kp)) ((arr n f).map kp).length (fun i σ H' => ∃ (a b c e' : Option V), σ = [some (.ref d), some (.ref e), a, b, c, e'] ∧ Same (upd H d (.frz od (dk (arr n f)))) H')
      ⟨none, none, none, none, rfl, Same.refl _⟩ (fun i σ H' hi ⟨_, _, _, _, _, s0⟩ => ⟨s0 _ _ upd_same, hi⟩) ?_ ?_
    · rintro i σ H' x H2 hi ⟨a, b, c, e', rfl, s0⟩ ⟨U, k, v, hkv, rfl, hU, rfl⟩
      obtain ⟨x, y, hxy, rfl, rfl⟩ := kp_get hkv
      have s1 := same_upd' s0 hU (o := .tup [kV (Sum.inl (x : Int)), V.int (y : Int)])
      have he2 := s1 e (dk (arr n g)) (by rw [upd_ne nde.symm]; exact he)
      refine ⟨U, _, rfl, SqT.of upd_same, rfl, _, _, rfl, _, _, rfl, rfl, ?_⟩
      refine ⟨e, dk (arr n g), he2, True.intro, fun oe => ?_⟩
      refine ⟨_, rfl, e, oe, (arr n g).map kp, rfl, upd_same, ?_⟩
      refine for_any (J := Iti e oe ((arr n g).map kp)) ((arr n g).map kp).length (fun i σ H3 => ∃ (c e' : Option V), σ = [some (.ref d), some (.ref e), some (.int (x : Int)), some (.int (y : Int)), c, e'] ∧ Same (upd (upd H' U (.tup [kV (Sum.inl (x : Int)), V.int (y : Int)])) e (.frz oe (dk (arr n g)))) H3)
        ⟨c, e', rfl, Same.refl _⟩ (fun i σ H' hi ⟨_, _, _, s2⟩ => ⟨s2 _ _ upd_same, hi⟩) ?_ ?_
      · rintro j σ H3 x2 H4 hj ⟨c, e', rfl, s2⟩ ⟨U2, k, v, hkv2, rfl, hU2, rfl⟩
        obtain ⟨u, v, huv, rfl, rfl⟩ := kp_get hkv2
        refine ⟨U2, _, rfl, SqT.of upd_same, rfl, _, _, rfl, _, _, rfl, rfl, ?_⟩
        refine ⟨_, rfl, _, rfl, rfl, _, rfl, _, rfl, rfl, rfl, _, rfl, ?_⟩
        have e1 : decide (V.bl (decide (V.int (x : Int) = V.int (u : Int))) = V.bl (decide (V.int (y : Int) = V.int (v : Int)))) = true := by
          refine decide_eq_true ?_
          have h1 := (rep_arr of x y).mp (List.mem_of_getElem? hxy)
          have h2 := (rep_arr og u v).mp (List.mem_of_getElem? huv)
          have h3 := dec_kV x u
          have h4 := dec_kV y v
          rw [show decide (V.int (x : Int) = V.int (u : Int)) = decide (x = u) from h3, show decide (V.int (y : Int) = V.int (v : Int)) = decide (y = v) from h4]
          rw [decide_eq_decide.mpr (nc x y u v h1 h2)]
        show if (!decide (V.bl (decide (V.int (x : Int) = V.int (u : Int))) = V.bl (decide (V.int (y : Int) = V.int (v : Int))))) = true then _ else _
        rw [e1]
        refine iteF ⟨_, _, rfl, same_upd' s2 hU2⟩
      · rintro σ H3 ⟨c, e', rfl, s2⟩
        exact ⟨⟨s2 _ _ upd_same, Nat.le_refl _⟩, s2 _ _ upd_same, _, _, _, _, rfl, s1.trans (same_unlock he2 s2)⟩
    · rintro σ H' ⟨a, b, c, e', rfl, s0⟩
      exact ⟨⟨s0 _ _ upd_same, Nat.le_refl _⟩, s0 _ _ upd_same, q _ (same_unlock hd s0)⟩
end
end CR

namespace CR
open PySem PySem.Spec PyProof.Rows L2 CM
section
variable {P : Program} {w : World} {K : PySem.W.Frag} {mg : Str → Option Value} {base : Heap} {A : Ad}
theorem dget_rep {H : Hp} {d : Addr} {l : List (Nat × Nat)} {f : PF} (r : Rep l f) (h : H d = some (dk l)) (x : Nat) : DGet H d (V.int (x : Int)) ((f x).map fun y : Nat => V.int (y : Int)) := by
  rw [← val_eq r]
  exact DGet.k (k := Sum.inl (x : Int)) h
/-! ### row_from -/
def nV (r : List Nat) : List V := r.map fun y : Nat => V.int (y : Int)
theorem nV_at {r : List Nat} {i y : Nat} (h : r[i]? = some y) : (nV r)[i]? = some (V.int (y : Int)) := by
  unfold nV
  rw [List.getElem?_map, h]
  rfl
theorem nV_len (r : List Nat) : (nV r).length = r.length := by unfold nV; rw [List.length_map]
theorem nV_last {r : List Nat} {y : Nat} (h : r[r.length - 1]? = some y) : atI (nV r) (-1) = some (V.int (y : Int)) := by
  have hl : r.length - 1 < r.length := (List.getElem?_eq_some_iff.mp h).1
  have e : ixN (nV r).length (-1) = some (r.length - 1) := by
    rw [nV_len]
    unfold ixN
    rw [if_neg (by decide), if_pos (by omega)]
    congr 1
    omega
  unfold atI
  rw [e, Option.bind_some]
  exact nV_at h
def spRowFrom : Sp := fun vs H Q _ => ∃ (d : Addr) (n x : Nat) (f : PF) (l : List (Nat × Nat)), vs = [.ref d, .int (x : Int)] ∧ H d = some (dk l) ∧ Rep l f ∧ Ok n f ∧ x < n ∧ n ≤ 300 ∧
  ∀ (p : Addr) (r : List Nat) (z : Nat) H', Same H H' → H p = none → H' p = some (.lst (nV r)) → Row n f x r → r[r.length - 1]? = some z → (f z = none ∨ f z = some x) → Q (.ref p) H'
theorem scRowFrom : FnScope ["arrows", "element", "row"] ["arrows", "element"] (defScope sRowFrom) := ⟨rfl, rfl, rfl, by decide +kernel, rfl, by decide +kernel, by decide +kernel⟩
theorem ok_rowFrom (T : Txt K mg A) : Good P w K mg base 1 A.rowFrom ["arrows", "element"] spRowFrom := by
  refine T.rowFromF.d.good scRowFrom (fun vs H Q E h => ?_) (fun cdv B outer s H vs Q E hr h => ?_)
  · obtain ⟨d, n, x, f, l, rfl, _⟩ := h
    rfl
  · obtain ⟨d, n, x, f, l, rfl, hd, rp, of, hx, hn, q⟩ := h
    have hu := hu_of hr
    have sc := scRowFrom
    refine ⟨_, pss_cons (ps_set (i := 2) sc.nd rfl (.inl rfl) (pe_lst (pa_cons (pv 1) pa_nil)))
      (pss_cons (ps_while PassesOwn.never (PW.pt (pw_and (pt_cmp (pc_din hu (pe_ix ix_list (pv 2) (pe_un un_neg pe_int) (fun _ _ => rfl)) (pv 0)))
          (pw_and1 (pt_cmpR op_ne (pe_dget hu (pv 0) (pe_ix ix_list (pv 2) (pe_un un_neg pe_int) (fun _ _ => rfl)) (fun _ _ => rfl)) (pv 1) (nomark _)))))
        (pss_one (ps_expr (pe_bm PySem.F.plainAttrs_list PySem.F.slot_list_append PySem.F.type_list_append mt_append (pv 2) (pa_cons (pe_dget hu (pv 0) (pe_ix ix_list (pv 2) (pe_un un_neg pe_int) (fun _ _ => rfl)) (fun _ _ => rfl)) pa_nil)))))
      (pss_one (ps_ret (pv 2)))), ?_⟩
    refine ⟨_, rfl, (by show 1 ≤ sizeLine; decide), fun p hp => ?_⟩
    have ndp : d ≠ p := ne_of_none hd hp
    refine ⟨fun m σ H' => ∃ r : List Nat, σ = [some (.ref d), some (.int (x : Int)), some (.ref p)] ∧ Same H H' ∧ H' p = some (.lst (nV r)) ∧ Row n f x r ∧ m = n - r.length, ⟨_, [x], rfl, same_upd hp, upd_same, Row.one hx, rfl⟩, ?_⟩
    rintro m σ H' ⟨r, rfl, s0, hpr, R, rfl⟩
    obtain ⟨z, hz⟩ : ∃ z, r[r.length - 1]? = some z := ⟨r[r.length - 1]'(by have := R.ne; omega), List.getElem?_eq_getElem _⟩
    have hd2 := s0 _ _ hd
    refine ⟨_, rfl, _, rfl, p, nV r, -1, _, rfl, rfl, SqL.of hpr, nV_last hz, ?_⟩
    refine ⟨_, rfl, d, _, rfl, dget_rep rp hd2 z, _, rfl, ?_⟩
    cases e : f z with
    | none =>
      refine iteF ?_
      exact ⟨_, rfl, q p r z H' s0 hp hpr R hz (.inl e)⟩
    | some y =>
      refine iteT ?_
      have g2 := dget_rep rp hd2 z
      rw [e] at g2
      refine ⟨_, rfl, _, rfl, _, rfl, p, nV r, -1, _, rfl, rfl, SqL.of hpr, nV_last hz, d, _, rfl, g2, _, rfl, rfl, _, rfl, ?_⟩
      have ed : decide (V.int (y : Int) = V.int (x : Int)) = decide (y = x) := dec_kV y x
      show if (!decide (V.int (y : Int) = V.int (x : Int))) = true then _ else _
      rw [ed]
      by_cases exy : y = x
      · subst exy
        rw [decide_eq_true rfl]
        exact iteF ⟨_, rfl, q p r z H' s0 hp hpr R hz (.inr e)⟩
      · rw [decide_eq_false exy]
        refine iteT ?_
        have R2 := R.grow of hz e exy
        have hl2 := R2.len
        rw [List.length_append, List.length_singleton] at hl2
        refine ⟨fun σ' H'' => σ' = [some (.ref d), some (.int (x : Int)), some (.ref p)] ∧ Same H H'' ∧ H'' p = some (.lst (nV (r ++ [y]))), fun σ' H'' ⟨e1, e2, e3⟩ => ⟨_, ?_, r ++ [y], e1, e2, e3, R2, rfl⟩, ?_⟩
        · rw [List.length_append, List.length_singleton]
          omega
        · refine ⟨_, rfl, .inl ⟨rfl, _, SqL.of hpr⟩, _, rfl, _, rfl, _, rfl, p, nV r, -1, _, rfl, rfl, SqL.of hpr, nV_last hz, d, _, rfl, g2, p, nV r, _, rfl, rfl, hpr, small1000 (by rw [nV_len]; have := R.len; omega), ?_⟩
          refine ⟨rfl, same_put s0 hp, ?_⟩
          rw [upd_same]
          unfold nV
          rw [List.map_append]
          rfl
end
end CR

namespace CR
open PySem PySem.Spec PyProof.Rows L2 CM
section
variable {P : Program} {w : World} {K : PySem.W.Frag} {mg : Str → Option Value} {base : Heap} {A : Ad}
theorem arr_succ_none {i : Nat} {F : PF} (h : F i = none) : arr (i + 1) F = arr i F := by
  unfold arr
  rw [List.range_succ, List.filterMap_append, List.filterMap_cons_none (by rw [h]; rfl)]
  simp
theorem arr_succ_some {i y : Nat} {F : PF} (h : F i = some y) : arr (i + 1) F = arr i F ++ [(i, y)] := by
  unfold arr
  rw [List.range_succ, List.filterMap_append, List.filterMap_cons_some (b := (i, y)) (by rw [h]; rfl)]
  rfl
theorem put_arr {i y : Nat} {F : PF} (h : F i = some y) : putK ((arr i F).map kp) (Sum.inl (i : Int)) (.int (y : Int)) = (arr (i + 1) F).map kp := by
  rcases val_cases i (arr i F) with ⟨z, h1, _⟩ | ⟨_, h2⟩
  · have := (mem_arr.mp h1).1
    omega
  · rw [putK_new _ h2, arr_succ_some h, List.map_append]
    rfl
/-! ### Map.__init__ -/
def spInit (C : Addr) : Sp := fun vs H Q _ => ∃ (x dx d : Addr) (n : Nat) (l : List (Nat × Nat)) (F : PF), vs = [.ref x, .int (n : Int), .ref d] ∧ H x = some (.ins C dx []) ∧ H d = some (dk l) ∧ Rep l F ∧ Ok n F ∧ 1 ≤ n ∧ n ≤ 300 ∧ (l.map (·.2)).Nodup ∧
  ∀ H' : Hp, (∀ b o, H b = some o → b ≠ x → H' b = some o) → MapAt C H' x n F → Q .non H'
theorem scInit : FnScope ["self", "size", "arrows", "source"] ["self", "size", "arrows"] (defScope sInit) := ⟨rfl, rfl, rfl, by decide +kernel, rfl, by decide +kernel, by decide +kernel⟩
theorem ok_init (T : Txt K mg A) : Good P w K mg base 4 A.init ["self", "size", "arrows"] (spInit A.C) := by
  refine T.initF.good scInit (fun vs H Q E h => ?_) (fun cdv B outer s H vs Q E hr h => ?_)
  · obtain ⟨x, dx, d, n, l, F, rfl, _⟩ := h
    rfl
  · obtain ⟨x, dx, d, n, l, F, rfl, hx, hd, rp, oF, h1, h3, nd, q⟩ := h
    have hu := hu_of hr
    have sc := scInit
    refine ⟨_, pss_cons (ps_if (pt_not (pt_val (pe_callG (ok_inRange T) (hr.mono (by decide)) (by rfl) T.inRangeF.g (pa_cons (pv 1) (pa_cons pe_int (pa_cons (pe_const (by rfl) T.mx) pa_nil)))))) (pss_one ps_never) pss_nil)
      (pss_cons (ps_if (pt_not (pt_val (pe_callG (ok_areArrows T) hr (by rfl) T.areArrowsF.g (pa_cons (pv 1) (pa_cons (pv 2) pa_nil))))) (pss_one ps_never) pss_nil)
      (pss_cons (ps_fld (pv 0) (pv 1) rfl)
      (pss_one (ps_fld (pv 0) (pe_dc (own := [("source", 3)]) (g := gName 3) (tt := tB (tDIn (tVar 3) (tVar 2))) rfl sc.nd (pi_range1 (by rfl) T.range (pa_cons (pv 1) pa_nil))
        (blkOk_by (N := ["self", "size", "arrows", "source"]) (sc := defScope sInit) (by decide +kernel))
        (fun _ _ _ _ _ => pg_name (i := 3) sc.nd rfl (.inl rfl)) (fun _ _ _ _ _ => pts_one (pt_cmp (pc_din hu (pv 3) (pv 2)))) (fun _ _ _ _ _ => pv 3)
        (fun _ _ _ _ _ => pe_dget hu (pv 2) (pv 3) (fun _ _ => rfl))) rfl)))), ?_⟩
    refine ⟨_, rfl, (n : Int), 1, 300, rfl, _, rfl, ?_⟩
    refine iteNS ⟨by omega, by omega⟩ ?_
    refine ⟨_, rfl, _, rfl, n, d, l, rfl, hd, h3, fun p hp => ?_, nd, fun H1 s1 => ⟨_, rfl, iteF ?_⟩⟩
    · have := (rp p.1 p.2).mp hp
      exact ⟨oF.dom _ _ this, oF.cod _ _ this⟩
    have hx1 := s1 _ _ hx
    have hd1 := s1 _ _ hd
    have nxd : d ≠ x := ne_of hd1 hx1 (by intro z; cases z)
    refine ⟨_, rfl, _, rfl, x, A.C, dx, [], rfl, hx1, T.cl, T.nS, (by show 0 < 1000; decide), ?_⟩
    have hd2 : (upd H1 x (.ins A.C dx (putF "own_size" (V.int (n : Int)) []))) d = some (dk l) := by rw [upd_ne nxd]; exact hd1
    have hx2 : (upd H1 x (.ins A.C dx (putF "own_size" (V.int (n : Int)) []))) x = some (.ins A.C dx (putF "own_size" (V.int (n : Int)) [])) := upd_same
    have keep : ∀ b o, H b = some o → b ≠ x → (upd H1 x (.ins A.C dx (putF "own_size" (V.int (n : Int)) []))) b = some o := fun b o e hb => by rw [upd_ne hb]; exact s1 _ _ e
    generalize upd H1 x (.ins A.C dx (putF "own_size" (V.int (n : Int)) [])) = H2 at hd2 hx2 keep ⊢
    refine ⟨_, rfl, (n : Int), rfl, by omega, by omega, fun D hD => ?_⟩
    rw [Int.toNat_natCast]
    refine dc_any (J := Itr 0 n) n (fun i H' => Same H2 H' ∧ H' D = some (dk (arr i F))) ⟨same_upd hD, by rw [upd_same]; rfl⟩ (fun i H' hi _ => hi) ?_ ?_
    · rintro i v H' H3 hi ⟨s0, hl⟩ ⟨rfl, rfl⟩
      rw [Int.zero_add]
      have g := dget_rep rp (s0 _ _ hd2) i
      refine ⟨rfl, ?_⟩
      refine ⟨_, rfl, _, rfl, d, _, rfl, g, _, rfl, ?_⟩
      cases e : F i with
      | none =>
        refine iteF ⟨s0, ?_⟩
        rw [arr_succ_none e]
        exact hl
      | some y =>
        refine iteT ?_
        rw [e] at g
        refine ⟨_, rfl, _, rfl, _, rfl, d, _, rfl, g, _, Sum.inl (i : Int), rfl, hl, small1000 (by rw [List.length_map]; have := length_arr i F; omega), same_put s0 hD, ?_⟩
        rw [upd_same, put_arr e]
        rfl
    · rintro H3 ⟨s0, hl⟩
      refine ⟨Nat.le_refl _, ?_⟩
      refine ⟨_, rfl, x, A.C, dx, _, rfl, s0 _ _ hx2, T.cl, T.nA, (by show 1 < 1000; decide), ?_⟩
      have nDx : D ≠ x := fun z => by rw [z, hx2] at hD; cases hD
      refine q _ (fun b o e hb => by rw [upd_ne hb]; exact s0 _ _ (keep b o e hb)) ⟨oF, h1, h3, dx, D, upd_same, ?_⟩
      rw [upd_ne nDx]
      exact hl
end
end CR

namespace CR
open PySem PySem.Spec PyProof.Rows L2 CM
/-! ### lists of pairs made in a comprehension -/
theorem put_new {l : List (Nat × Nat)} {x : Nat} (z : Nat) (h : x ∉ l.map (·.1)) : putK (l.map kp) (Sum.inl (x : Int)) (.int (z : Int)) = (l ++ [(x, z)]).map kp := by
  rcases val_cases x l with ⟨y, h1, _⟩ | ⟨_, h2⟩
  · exact absurd (List.mem_map.mpr ⟨(x, y), h1, rfl⟩) h
  · rw [putK_new _ h2, List.map_append]
    rfl
theorem key_fresh {l : List (Nat × Nat)} (nd : (l.map (·.1)).Nodup) {i : Nat} {x y : Nat} (h : l[i]? = some (x, y)) : x ∉ (l.take i).map (·.1) := by
  intro m
  obtain ⟨p, hp, e⟩ := List.mem_map.mp m
  obtain ⟨j, hj⟩ := List.getElem?_of_mem hp
  have hji : j < i := by
    have := (List.getElem?_eq_some_iff.mp hj).1
    rw [List.length_take] at this
    omega
  rw [List.getElem?_take_of_lt hji] at hj
  have h1 : (l.map (·.1))[j]? = some x := by rw [List.getElem?_map, hj]; exact congrArg some e
  have h2 : (l.map (·.1))[i]? = some x := by rw [List.getElem?_map, h]; rfl
  have := nd_at nd h1 h2
  omega
def fm (h : Nat × Nat → Option Nat) (l : List (Nat × Nat)) : List (Nat × Nat) := l.filterMap fun p => (h p).map fun z => (p.1, z)
theorem mem_fm {h : Nat × Nat → Option Nat} {l : List (Nat × Nat)} {x z : Nat} : (x, z) ∈ fm h l ↔ ∃ y, (x, y) ∈ l ∧ h (x, y) = some z := by
  unfold fm
  rw [List.mem_filterMap]
  constructor
  · rintro ⟨p, hp, e⟩
    cases q : h p with
    | none => rw [q] at e; cases e
    | some u =>
      rw [q] at e
      cases e
      exact ⟨p.2, hp, q⟩
  · rintro ⟨y, hy, e⟩
    exact ⟨(x, y), hy, by rw [e]; rfl⟩
theorem keys_fm (h : Nat × Nat → Option Nat) (l : List (Nat × Nat)) : ((fm h l).map (·.1)).Sublist (l.map (·.1)) := by
  induction l with
  | nil => exact .slnil
  | cons p r ih =>
    unfold fm
    cases e : h p with
    | none => rw [List.filterMap_cons_none (by rw [e]; rfl), List.map_cons]; exact ih.cons _
    | some u => rw [List.filterMap_cons_some (b := (p.1, u)) (by rw [e]; rfl), List.map_cons, List.map_cons]; exact ih.cons_cons _
theorem fm_none {h : Nat × Nat → Option Nat} {l : List (Nat × Nat)} {i : Nat} {p : Nat × Nat} (hp : l[i]? = some p) (e : h p = none) : fm h (l.take (i + 1)) = fm h (l.take i) := by
  unfold fm
  rw [List.take_add_one, hp, List.filterMap_append, Option.toList_some, List.filterMap_cons_none (by rw [e]; rfl)]
  simp
theorem fm_some {h : Nat × Nat → Option Nat} {l : List (Nat × Nat)} {i : Nat} {p : Nat × Nat} {z : Nat} (hp : l[i]? = some p) (e : h p = some z) : fm h (l.take (i + 1)) = fm h (l.take i) ++ [(p.1, z)] := by
  unfold fm
  rw [List.take_add_one, hp, List.filterMap_append, Option.toList_some, List.filterMap_cons_some (b := (p.1, z)) (by rw [e]; rfl)]
  rfl
theorem fm_put {h : Nat × Nat → Option Nat} {l : List (Nat × Nat)} (nd : (l.map (·.1)).Nodup) {i x y z : Nat} (hp : l[i]? = some (x, y)) (e : h (x, y) = some z) :
    putK ((fm h (l.take i)).map kp) (Sum.inl (x : Int)) (.int (z : Int)) = (fm h (l.take (i + 1))).map kp := by
  rw [fm_some hp e]
  exact put_new z fun m => key_fresh nd hp ((keys_fm h _).subset m)
theorem fm_len (h : Nat × Nat → Option Nat) (l : List (Nat × Nat)) (i : Nat) : (fm h (l.take i)).length ≤ l.length := by
  unfold fm
  exact Nat.le_trans (List.length_filterMap_le _ _) (by rw [List.length_take]; omega)
section
variable {P : Program} {w : World} {K : PySem.W.Frag} {mg : Str → Option Value} {base : Heap} {A : Ad}
/-- Map(n, d): what its __init__ promises, seen from outside -/
theorem made {C : Addr} {H1 : Hp} {d : Addr} {n : Nat} {l : List (Nat × Nat)} {F : PF} {Q : VK} (hd : H1 d = some (dk l)) (rp : Rep l F) (oF : Ok n F) (h1 : 1 ≤ n) (h3 : n ≤ 300) (nd : (l.map (·.1)).Nodup)
    (q : ∀ x H', Same H1 H' → H1 x = none → MapAt C H' x n F → Q (.ref x) H') :
    ∀ x dx, H1 x = none → H1 dx = none → dx ≠ x → spInit C [.ref x, .int (n : Int), .ref d] (upd (upd H1 dx (.own x)) x (.ins C dx [])) (fun v H2 => v = .non ∧ Q (.ref x) H2) E0 := by
  intro x dx nx ndx ne
  have s0 : Same H1 (upd (upd H1 dx (.own x)) x (.ins C dx [])) := fun b o e => by
    rw [upd_ne (ne_of_none e nx), upd_ne (ne_of_none e ndx)]
    exact e
  refine ⟨x, dx, d, n, l, F, rfl, upd_same, s0 _ _ hd, rp, oF, h1, h3, nodup_vals oF (fun p hp => (rp p.1 p.2).mp hp) nd, fun H' k M => ⟨rfl, ?_⟩⟩
  exact q x H' (fun b o e => k b o (s0 b o e) (ne_of_none e nx)) nx M
/-- the promise of an operator on two maps -/
def spBin (C : Addr) (pre : PF → PF → Prop) (res : PF → PF → PF) : Sp := fun vs H Q _ => ∃ (a b : Addr) (n : Nat) (f g : PF), vs = [.ref a, .ref b] ∧ MapAt C H a n f ∧ MapAt C H b n g ∧ pre f g ∧
  ∀ p H', Same H H' → MapAt C H' p n (res f g) → Q (.ref p) H'
abbrev noPre : PF → PF → Prop := fun _ _ => True
/-! ### __mul__ -/
theorem scMul : FnScope ["self", "other", "size", "later", "source", "target"] ["self", "other"] (defScope sMul) := ⟨rfl, rfl, rfl, by decide +kernel, rfl, by decide +kernel, by decide +kernel⟩
theorem ok_mul (T : Txt K mg A) : Good P w K mg base 6 A.mul ["self", "other"] (spBin A.C noPre mulF) := by
  refine T.mulF.d.good scMul (fun vs H Q E h => ?_) (fun cdv B outer s H vs Q E hr h => ?_)
  · obtain ⟨a, b, n, f, g, rfl, _⟩ := h
    rfl
  · obtain ⟨a, b, n, f, g, rfl, M, N, _, q⟩ := h
    have hu := hu_of hr
    have sc := scMul
    obtain ⟨dx, d, ha, hd⟩ := M.ob
    obtain ⟨dy, e, hb, he⟩ := N.ob
    refine ⟨_, pss_cons (ps_if (pt_not (pt_val (pe_callB call_isi (by rfl) T.isinstance boot_isinstance (pa_cons (pv 1) (pa_cons (pe_glob (v := .ref A.C) (by rfl) T.mgC rfl) pa_nil))))) (pss_one ps_never) pss_nil)
      (pss_cons (ps_set (i := 2) sc.nd rfl (.inl rfl) (pe_callG (ok_common T) (hr.mono (by decide)) (by rfl) T.commonF.g (pa_cons (pv 0) (pa_cons (pv 1) pa_nil))))
      (pss_cons (ps_set (i := 3) sc.nd rfl (.inr rfl) (pe_propG (pv 1) T.cl T.arrowsP (ok_arrows T) (hr.mono (by decide))))
      (pss_one (ps_ret (pe_makeG T.mke (ok_init T) hr (by rfl) T.mgC (pa_cons (pv 2) (pa_cons (pe_lock (pe_dc (own := [("source", 4), ("target", 5)]) (g := gTup K 2 (gCons (gName 4) (gCons (gName 5) gNil)))
        (tt := tB (tDIn (tVar 5) (tVar 3))) rfl sc.nd (pi_items (pe_fld (pv 0) rfl))
        (blkOk_by (N := ["self", "other", "size", "later", "source", "target"]) (sc := defScope sMul) (by decide +kernel))
        (fun _ _ _ _ _ => pg_tup rfl (pgs_cons (pg_name (i := 4) sc.nd rfl (.inl rfl)) (pgs_cons (pg_name (i := 5) sc.nd rfl (.inl rfl)) pgs_nil)))
        (fun _ _ _ _ _ => pts_one (pt_cmp (pc_din hu (pv 5) (pv 3)))) (fun _ _ _ _ _ => pv 4)
        (fun _ _ _ _ _ => pe_dget hu (pv 3) (pv 5) (fun _ _ => rfl)))) pa_nil))))))), ?_⟩
    refine ⟨_, rfl, .ref b, .ref A.C, .ref A.C, .ref A.C, true, rfl, .own _, ty_map T hb, T.ik, _, rfl, iteF ?_⟩
    refine ⟨_, rfl, _, rfl, a, b, n, f, g, rfl, M, N, ?_⟩
    refine ⟨_, rfl, b, dy, _, rfl, hb, b, n, g, rfl, N, fun t ht => ?_⟩
    have s1 := same_upd ht (o := dk (arr n g))
    have hd1 := s1 _ _ hd
    have ha1 := s1 _ _ ha
    have ht1 : (upd H t (dk (arr n g))) t = some (dk (arr n g)) := upd_same
    generalize upd H t (dk (arr n g)) = H1 at s1 hd1 ha1 ht1 ⊢
    have ntd : t ≠ d := fun z => by rw [z, hd] at ht; cases ht
    have nad : a ≠ d := ne_of ha1 hd1 (by intro z; cases z)
    refine ⟨_, rfl, d, dk (arr n f), hd1, True.intro, fun od => ?_⟩
    refine ⟨_, rfl, a, A.C, dx, _, _, rfl, by rw [upd_ne nad]; exact ha1, T.cl, T.nA, mf_arrows _ _, d, od, (arr n f).map kp, rfl, upd_same, fun D hD => ?_⟩
    obtain ⟨hD0, nDd⟩ := lock_none hd1 hD
    refine dc_any (J := Iti d od ((arr n f).map kp)) ((arr n f).map kp).length (fun i H' => Same (upd H1 d (.frz od (dk (arr n f)))) H' ∧ H' D = some (dk (fm (fun p => g p.2) ((arr n f).take i)))) ⟨same_upd hD, by rw [upd_same]; rfl⟩
      (fun i H' hi ⟨s0, _⟩ => ⟨s0 _ _ upd_same, hi⟩) ?_ ?_
    · rintro i v H' H3 hi ⟨s0, hl⟩ ⟨U, k, v, hkv, rfl, hU, rfl⟩
      obtain ⟨x, y, hxy, rfl, rfl⟩ := kp_get hkv
      have nDU : D ≠ U := ne_of_none hl hU
      have s2 := same_upd' s0 hU (o := .tup [kV (Sum.inl (x : Int)), V.int (y : Int)])
      have ht2 := s2 t (dk (arr n g)) (by rw [upd_ne ntd]; exact ht1)
      have gt := dget N.ok ht2 y
      refine ⟨U, _, rfl, SqT.of upd_same, rfl, _, _, rfl, _, _, rfl, rfl, rfl, ?_⟩
      refine ⟨_, rfl, _, rfl, t, _, rfl, gt, _, rfl, ?_⟩
      cases ez : g y with
      | none =>
        refine iteF ⟨s2, ?_⟩
        rw [upd_ne nDU, fm_none hxy ez]
        exact hl
      | some z =>
        refine iteT ?_
        rw [ez] at gt
        refine ⟨_, rfl, _, rfl, _, rfl, t, _, rfl, gt, _, Sum.inl (x : Int), rfl, by rw [upd_ne nDU]; exact hl, small1000 (by rw [List.length_map]; have := fm_len (fun p => g p.2) (arr n f) i; have := arr_len (f := f) M.hi; omega), same_put s2 hD, ?_⟩
        rw [upd_same, fm_put (nodup_keys_arr n f) hxy ez]
        rfl
    · rintro H3 ⟨s0, hl⟩
      refine ⟨⟨s0 _ _ upd_same, Nat.le_refl _⟩, s0 _ _ upd_same, ?_⟩
      rw [List.length_map, List.take_length] at hl
      have s3 := same_unlock hd1 s0
      refine made (l := fm (fun p => g p.2) (arr n f)) (F := mulF f g) (by rw [upd_ne nDd]; exact hl) (fun x z => ?_) (M.ok.mul N.ok) M.lo M.hi (List.Nodup.sublist (keys_fm _ _) (nodup_keys_arr n f))
        (fun p H' s4 _ MM => q p H' ((s1.trans s3).trans s4) MM)
      rw [mem_fm, mul_iff]
      constructor
      · rintro ⟨y, h1, h2⟩; exact ⟨y, (rep_arr M.ok x y).mp h1, h2⟩
      · rintro ⟨y, h1, h2⟩; exact ⟨y, (rep_arr M.ok x y).mpr h1, h2⟩
end
end CR

namespace CR
open PySem PySem.Spec PyProof.Rows L2 CM
section
variable {X : Cx}
/-- name = {..} on one line, the name a local -/
theorem ps_setDc {i : Nat} {y : PySem.Str} {py : Pos} {kx vx tg iter : Expr} {ifs : List Expr} {scope : Scope} {own : List (PySem.Str × Nat)} {pos spos : Pos} {wi : TI} {g : TG} {tt : TT} {tk tv : TE} (hc : X.calm = true) (hN : X.N.Nodup) (hy : X.N[i]? = some y) (hyl : X.env.scope.names.lookup y = some .local)
    (hsw : swapsWith (.DictComp kx vx [⟨tg, iter, ifs, 0⟩] scope pos) (some (.Name y py)) spos.line X.env = pure true) (hi : PI X tg iter wi) (ok : BlkOk X.N X.env.scope scope own)
    (hg : ∀ (s : Shared) (H : Hp) (C : Addr) (cl : List (PySem.Str × Addr)) (fp : List Addr), PG (X.blk s H scope (compEnvC scope cl C X.env) fp) tg g) (ht : ∀ (s : Shared) (H : Hp) (C : Addr) (cl : List (PySem.Str × Addr)) (fp : List Addr), PTs (X.blk s H scope (compEnvC scope cl C X.env) fp) ifs tt)
    (hk : ∀ (s : Shared) (H : Hp) (C : Addr) (cl : List (PySem.Str × Addr)) (fp : List Addr), PE (X.blk s H scope (compEnvC scope cl C X.env) fp) kx tk)
    (he : ∀ (s : Shared) (H : Hp) (C : Addr) (cl : List (PySem.Str × Addr)) (fp : List Addr), PE (X.blk s H scope (compEnvC scope cl C X.env) fp) vx tv) (hs : ∀ x, foldedSetIterable iter X.env x = pure x := by intro _; rfl) :
    PS X (.Assign [.Name y py] (.DictComp kx vx [⟨tg, iter, ifs, 0⟩] scope pos) spos) (tAsg (tDc wi g tt tk tv (own.map (·.2))) (gName i)) := by
  refine ⟨fun pins s σ H D I h => ?_⟩
  rw [exec_Assign_Name_used _ _ _ _ hsw]
  refine wpAny_bind (wpAny_standAt (wpAny_bind ?_))
  show wpAny _ X.A (do let _ ← comprehension (.DictComp kx vx [⟨tg, iter, ifs, 0⟩] scope pos) scope X.env (firstIterPos [⟨tg, iter, ifs, 0⟩] pos) newDict false (eval iter X.env) (some (assign (.Name y py) X.env))) _ _ s
  have h : tDc wi g tt tk tv (own.map (·.2)) σ H (fun x H1 => gName i x σ H1 D.nx) := h
  refine wpAny_bind (thn (dc_core (Qf := fun _ s' => SP X pins D .next s') hc hN I hi ok hg ht hk he hs h fun L C s' m H' I' q hn f => ?_) fun _ s' hq => wpAny_pure (wpAny_pure hq))
  show wpAny _ _ (assign (.Name y py) X.env (.ref L)) _ _ _
  refine wpAny_assign_Name (store_ok2 (v := V.ref L) I' hN hy (.inl hyl) rfl (fun s2 I2 ⟨a, sb, ha⟩ => ?_) (.inr hyl))
  obtain ⟨f0, f1, f2, f3, f4, f5⟩ := f
  have haC : C ≠ a := by
    rcases ha with z | z
    · rw [z]; exact f1
    · exact fun e => f4 y a z e.symm
  refine ⟨m, hn.sameBut sb haC, fun h3 sb3 => ?_⟩
  exact ⟨_, H', I2.turned (t' := s2.toks) (fun b o hb e => (sb3.2 b hb).trans e) f0 f1 f3 f4 f5, q⟩
theorem sw_trueD {kx vx : Expr} {gs : List Comprehension} {scope : Scope} {pos py : Pos} {y : PySem.Str} {l : Nat} {env : Env} (hk : env.scope.kind = .function) (hy : env.scope.names.lookup y = some .local) (hl : (py.line == pos.line) = true)
    (ha : (scope.names.any fun (n, k) => n == y && (k == .local || k == .cell)) = false) : swapsWith (.DictComp kx vx gs scope pos) (some (.Name y py)) l env = pure true := by
  have ky : env.kindOf y = some .local := hy
  have hb : env.blockKind = .function := by unfold Env.blockKind; rw [hk]; rfl
  unfold swapsWith
  simp only [hb, ky, ha, Expr.pos, hl]
  rfl
end
section
variable {P : Program} {w : World} {K : PySem.W.Frag} {mg : Str → Option Value} {base : Heap} {A : Ad}
/-! ### __and__ -/
def hAnd (g : PF) : Nat × Nat → Option Nat := fun p => if g p.1 = some p.2 then some p.2 else none
theorem scAnd : FnScope ["self", "other", "size", "later", "both", "source", "target"] ["self", "other"] (defScope sAnd) := ⟨rfl, rfl, rfl, by decide +kernel, rfl, by decide +kernel, by decide +kernel⟩
theorem ok_and (T : Txt K mg A) : Good P w K mg base 6 A.and ["self", "other"] (spBin A.C noPre andF) := by
  refine T.andF.d.good scAnd (fun vs H Q E h => ?_) (fun cdv B outer s H vs Q E hr h => ?_)
  · obtain ⟨a, b, n, f, g, rfl, _⟩ := h
    rfl
  · obtain ⟨a, b, n, f, g, rfl, M, N, _, q⟩ := h
    have hu := hu_of hr
    have sc := scAnd
    obtain ⟨dx, d, ha, hd⟩ := M.ob
    obtain ⟨dy, e, hb, he⟩ := N.ob
    refine ⟨_, pss_cons (ps_if (pt_not (pt_val (pe_callB call_isi (by rfl) T.isinstance boot_isinstance (pa_cons (pv 1) (pa_cons (pe_glob (v := .ref A.C) (by rfl) T.mgC rfl) pa_nil))))) (pss_one ps_never) pss_nil)
      (pss_cons (ps_set (i := 2) sc.nd rfl (.inl rfl) (pe_callG (ok_common T) (hr.mono (by decide)) (by rfl) T.commonF.g (pa_cons (pv 0) (pa_cons (pv 1) pa_nil))))
      (pss_cons (ps_set (i := 3) sc.nd rfl (.inr rfl) (pe_propG (pv 1) T.cl T.arrowsP (ok_arrows T) (hr.mono (by decide))))
      (pss_cons (ps_lock (ps_setDc (i := 4) (own := [("source", 5), ("target", 6)]) (g := gTup K 2 (gCons (gName 5) (gCons (gName 6) gNil)))
        (tt := tTest (tOp rEq (tDGet1 (tVar 3) (tVar 5)) (tVar 6))) rfl sc.nd rfl rfl (sw_trueD rfl rfl rfl (by decide +kernel)) (pi_items (pe_fld (pv 0) rfl))
        (blkOk_by (N := ["self", "other", "size", "later", "both", "source", "target"]) (sc := defScope sAnd) (by decide +kernel))
        (fun _ _ _ _ _ => pg_tup rfl (pgs_cons (pg_name (i := 5) sc.nd rfl (.inl rfl)) (pgs_cons (pg_name (i := 6) sc.nd rfl (.inl rfl)) pgs_nil)))
        (fun _ _ _ _ _ => pts_one (pt_cmpR op_eq (pe_dget1 hu (pv 3) (pv 5) ⟨rfl, rfl, rfl, rfl⟩) (pv 6) (nomark _))) (fun _ _ _ _ _ => pv 5)
        (fun _ _ _ _ _ => pv 6)))
      (pss_one (ps_ret (pe_makeG T.mke (ok_init T) hr (by rfl) T.mgC (pa_cons (pv 2) (pa_cons (pv 4) pa_nil)))))))), ?_⟩
    refine ⟨_, rfl, .ref b, .ref A.C, .ref A.C, .ref A.C, true, rfl, .own _, ty_map T hb, T.ik, _, rfl, iteF ?_⟩
    refine ⟨_, rfl, _, rfl, a, b, n, f, g, rfl, M, N, ?_⟩
    refine ⟨_, rfl, b, dy, _, rfl, hb, b, n, g, rfl, N, fun t ht => ?_⟩
    have s1 := same_upd ht (o := dk (arr n g))
    have hd1 := s1 _ _ hd
    have ha1 := s1 _ _ ha
    have ht1 : (upd H t (dk (arr n g))) t = some (dk (arr n g)) := upd_same
    generalize upd H t (dk (arr n g)) = H1 at s1 hd1 ha1 ht1 ⊢
    have ntd : t ≠ d := fun z => by rw [z, hd] at ht; cases ht
    have nad : a ≠ d := ne_of ha1 hd1 (by intro z; cases z)
    refine ⟨d, dk (arr n f), hd1, True.intro, fun od => ?_⟩
    refine ⟨_, rfl, a, A.C, dx, _, _, rfl, by rw [upd_ne nad]; exact ha1, T.cl, T.nA, mf_arrows _ _, d, od, (arr n f).map kp, rfl, upd_same, fun D hD => ?_⟩
    obtain ⟨hD0, nDd⟩ := lock_none hd1 hD
    refine dc_any (J := Iti d od ((arr n f).map kp)) ((arr n f).map kp).length (fun i H' => Same (upd H1 d (.frz od (dk (arr n f)))) H' ∧ H' D = some (dk (fm (hAnd g) ((arr n f).take i)))) ⟨same_upd hD, by rw [upd_same]; rfl⟩
      (fun i H' hi ⟨s0, _⟩ => ⟨s0 _ _ upd_same, hi⟩) ?_ ?_
    · rintro i v H' H3 hi ⟨s0, hl⟩ ⟨U, k, v, hkv, rfl, hU, rfl⟩
      obtain ⟨x, y, hxy, rfl, rfl⟩ := kp_get hkv
      have nDU : D ≠ U := ne_of_none hl hU
      have s2 := same_upd' s0 hU (o := .tup [kV (Sum.inl (x : Int)), V.int (y : Int)])
      have ht2 := s2 t (dk (arr n g)) (by rw [upd_ne ntd]; exact ht1)
      refine ⟨U, _, rfl, SqT.of upd_same, rfl, _, _, rfl, _, _, rfl, rfl, rfl, ?_⟩
      refine ⟨_, rfl, t, rfl, .inl ⟨_, .inl ht2⟩, _, rfl, _, dget N.ok ht2 x, _, rfl, getD_scal _ _, _, rfl, ?_⟩
      rw [getD_eq]
      by_cases ez : g x = some y
      · rw [decide_eq_true ez]
        refine iteT ?_
        have ez' : hAnd g (x, y) = some y := if_pos ez
        refine ⟨_, rfl, _, rfl, _, Sum.inl (x : Int), rfl, by rw [upd_ne nDU]; exact hl, small1000 (by rw [List.length_map]; have := fm_len (hAnd g) (arr n f) i; have := arr_len (f := f) M.hi; omega), same_put s2 hD, ?_⟩
        rw [upd_same, fm_put (nodup_keys_arr n f) hxy ez']
        rfl
      · rw [decide_eq_false ez]
        have ez' : hAnd g (x, y) = none := if_neg ez
        refine iteF ⟨s2, ?_⟩
        rw [upd_ne nDU, fm_none hxy ez']
        exact hl
    · rintro H3 ⟨s0, hl⟩
      refine ⟨⟨s0 _ _ upd_same, Nat.le_refl _⟩, s0 _ _ upd_same, ?_⟩
      rw [List.length_map, List.take_length] at hl
      have s3 := same_unlock hd1 s0
      refine ⟨_, rfl, _, rfl, ?_⟩
      refine made (l := fm (hAnd g) (arr n f)) (F := andF f g) (by rw [upd_ne nDd]; exact hl) (fun x z => ?_) M.ok.and M.lo M.hi (List.Nodup.sublist (keys_fm _ _) (nodup_keys_arr n f))
        (fun p H' s4 _ MM => q p H' ((s1.trans s3).trans s4) MM)
      rw [mem_fm, and_iff]
      constructor
      · rintro ⟨y, h1, h2⟩
        have h1 := (rep_arr M.ok x y).mp h1
        unfold hAnd at h2
        by_cases e2 : g x = some y
        · rw [if_pos e2] at h2; cases h2; exact ⟨h1, e2⟩
        · rw [if_neg e2] at h2; cases h2
      · rintro ⟨h1, h2⟩
        exact ⟨z, (rep_arr M.ok x z).mpr h1, if_pos h2⟩
/-! ### __sub__ -/
def hSub (g : PF) : Nat × Nat → Option Nat := fun p => if g p.1 = some p.2 then none else some p.2
theorem scSub : FnScope ["self", "other", "size", "later", "rest", "source", "target"] ["self", "other"] (defScope sSub) := ⟨rfl, rfl, rfl, by decide +kernel, rfl, by decide +kernel, by decide +kernel⟩
theorem ok_sub (T : Txt K mg A) : Good P w K mg base 6 A.sub ["self", "other"] (spBin A.C noPre subF) := by
  refine T.subF.d.good scSub (fun vs H Q E h => ?_) (fun cdv B outer s H vs Q E hr h => ?_)
  · obtain ⟨a, b, n, f, g, rfl, _⟩ := h
    rfl
  · obtain ⟨a, b, n, f, g, rfl, M, N, _, q⟩ := h
    have hu := hu_of hr
    have sc := scSub
    obtain ⟨dx, d, ha, hd⟩ := M.ob
    obtain ⟨dy, e, hb, he⟩ := N.ob
    refine ⟨_, pss_cons (ps_if (pt_not (pt_val (pe_callB call_isi (by rfl) T.isinstance boot_isinstance (pa_cons (pv 1) (pa_cons (pe_glob (v := .ref A.C) (by rfl) T.mgC rfl) pa_nil))))) (pss_one ps_never) pss_nil)
      (pss_cons (ps_set (i := 2) sc.nd rfl (.inl rfl) (pe_callG (ok_common T) (hr.mono (by decide)) (by rfl) T.commonF.g (pa_cons (pv 0) (pa_cons (pv 1) pa_nil))))
      (pss_cons (ps_set (i := 3) sc.nd rfl (.inr rfl) (pe_propG (pv 1) T.cl T.arrowsP (ok_arrows T) (hr.mono (by decide))))
      (pss_cons (ps_lock (ps_setDc (i := 4) (own := [("source", 5), ("target", 6)]) (g := gTup K 2 (gCons (gName 5) (gCons (gName 6) gNil)))
        (tt := tTest (tOp rNe (tDGet1 (tVar 3) (tVar 5)) (tVar 6))) rfl sc.nd rfl rfl (sw_trueD rfl rfl rfl (by decide +kernel)) (pi_items (pe_fld (pv 0) rfl))
        (blkOk_by (N := ["self", "other", "size", "later", "rest", "source", "target"]) (sc := defScope sSub) (by decide +kernel))
        (fun _ _ _ _ _ => pg_tup rfl (pgs_cons (pg_name (i := 5) sc.nd rfl (.inl rfl)) (pgs_cons (pg_name (i := 6) sc.nd rfl (.inl rfl)) pgs_nil)))
        (fun _ _ _ _ _ => pts_one (pt_cmpR op_ne (pe_dget1 hu (pv 3) (pv 5) ⟨rfl, rfl, rfl, rfl⟩) (pv 6) (nomark _))) (fun _ _ _ _ _ => pv 5)
        (fun _ _ _ _ _ => pv 6)))
      (pss_one (ps_ret (pe_makeG T.mke (ok_init T) hr (by rfl) T.mgC (pa_cons (pv 2) (pa_cons (pv 4) pa_nil)))))))), ?_⟩
    refine ⟨_, rfl, .ref b, .ref A.C, .ref A.C, .ref A.C, true, rfl, .own _, ty_map T hb, T.ik, _, rfl, iteF ?_⟩
    refine ⟨_, rfl, _, rfl, a, b, n, f, g, rfl, M, N, ?_⟩
    refine ⟨_, rfl, b, dy, _, rfl, hb, b, n, g, rfl, N, fun t ht => ?_⟩
    have s1 := same_upd ht (o := dk (arr n g))
    have hd1 := s1 _ _ hd
    have ha1 := s1 _ _ ha
    have ht1 : (upd H t (dk (arr n g))) t = some (dk (arr n g)) := upd_same
    generalize upd H t (dk (arr n g)) = H1 at s1 hd1 ha1 ht1 ⊢
    have ntd : t ≠ d := fun z => by rw [z, hd] at ht; cases ht
    have nad : a ≠ d := ne_of ha1 hd1 (by intro z; cases z)
    refine ⟨d, dk (arr n f), hd1, True.intro, fun od => ?_⟩
    refine ⟨_, rfl, a, A.C, dx, _, _, rfl, by rw [upd_ne nad]; exact ha1, T.cl, T.nA, mf_arrows _ _, d, od, (arr n f).map kp, rfl, upd_same, fun D hD => ?_⟩
    obtain ⟨hD0, nDd⟩ := lock_none hd1 hD
    refine dc_any (J := Iti d od ((arr n f).map kp)) ((arr n f).map kp).length (fun i H' => Same (upd H1 d (.frz od (dk (arr n f)))) H' ∧ H' D = some (dk (fm (hSub g) ((arr n f).take i)))) ⟨same_upd hD, by rw [upd_same]; rfl⟩
      (fun i H' hi ⟨s0, _⟩ => ⟨s0 _ _ upd_same, hi⟩) ?_ ?_
    · rintro i v H' H3 hi ⟨s0, hl⟩ ⟨U, k, v, hkv, rfl, hU, rfl⟩
      obtain ⟨x, y, hxy, rfl, rfl⟩ := kp_get hkv
      have nDU : D ≠ U := ne_of_none hl hU
      have s2 := same_upd' s0 hU (o := .tup [kV (Sum.inl (x : Int)), V.int (y : Int)])
      have ht2 := s2 t (dk (arr n g)) (by rw [upd_ne ntd]; exact ht1)
      refine ⟨U, _, rfl, SqT.of upd_same, rfl, _, _, rfl, _, _, rfl, rfl, rfl, ?_⟩
      refine ⟨_, rfl, t, rfl, .inl ⟨_, .inl ht2⟩, _, rfl, _, dget N.ok ht2 x, _, rfl, getD_scal _ _, _, rfl, ?_⟩
      rw [getD_eq]
      by_cases ez : g x = some y
      · rw [decide_eq_true ez]
        have ez' : hSub g (x, y) = none := if_pos ez
        refine iteF ⟨s2, ?_⟩
        rw [upd_ne nDU, fm_none hxy ez']
        exact hl
      · rw [decide_eq_false ez]
        refine iteT ?_
        have ez' : hSub g (x, y) = some y := if_neg ez
        refine ⟨_, rfl, _, rfl, _, Sum.inl (x : Int), rfl, by rw [upd_ne nDU]; exact hl, small1000 (by rw [List.length_map]; have := fm_len (hSub g) (arr n f) i; have := arr_len (f := f) M.hi; omega), same_put s2 hD, ?_⟩
        rw [upd_same, fm_put (nodup_keys_arr n f) hxy ez']
        rfl
    · rintro H3 ⟨s0, hl⟩
      refine ⟨⟨s0 _ _ upd_same, Nat.le_refl _⟩, s0 _ _ upd_same, ?_⟩
      rw [List.length_map, List.take_length] at hl
      have s3 := same_unlock hd1 s0
      refine ⟨_, rfl, _, rfl, ?_⟩
      refine made (l := fm (hSub g) (arr n f)) (F := subF f g) (by rw [upd_ne nDd]; exact hl) (fun x z => ?_) M.ok.sub M.lo M.hi (List.Nodup.sublist (keys_fm _ _) (nodup_keys_arr n f))
        (fun p H' s4 _ MM => q p H' ((s1.trans s3).trans s4) MM)
      rw [mem_fm, sub_iff]
      constructor
      · rintro ⟨y, h1, h2⟩
        have h1 := (rep_arr M.ok x y).mp h1
        unfold hSub at h2
        by_cases e2 : g x = some y
        · rw [if_pos e2] at h2; cases h2
        · rw [if_neg e2] at h2; cases h2; exact ⟨h1, e2⟩
      · rintro ⟨h1, h2⟩
        exact ⟨z, (rep_arr M.ok x z).mpr h1, if_neg h2⟩
/-! ### __invert__ -/
def spInv (C : Addr) : Sp := fun vs H Q _ => ∃ (a : Addr) (n : Nat) (f : PF), vs = [.ref a] ∧ MapAt C H a n f ∧ ∀ p H', Same H H' → MapAt C H' p n (invF n f) → Q (.ref p) H'
theorem scInvert : FnScope ["self", "source", "target"] ["self"] (defScope sInvert) := ⟨rfl, rfl, rfl, by decide +kernel, rfl, by decide +kernel, by decide +kernel⟩
def flip (l : List (Nat × Nat)) : List (Nat × Nat) := l.map fun p => (p.2, p.1)
theorem keys_flip (l : List (Nat × Nat)) : (flip l).map (·.1) = l.map (·.2) := by
  unfold flip
  rw [List.map_map]
  rfl
theorem rep_flip {n : Nat} {f : PF} (o : Ok n f) : Rep (flip (arr n f)) (invF n f) := fun x y => by
  rw [inv_iff o, ← rep_arr o]
  unfold flip
  rw [List.mem_map]
  constructor
  · rintro ⟨p, hp, e⟩
    cases e
    exact hp
  · intro h
    exact ⟨_, h, rfl⟩
theorem nodup_vals_arr {n : Nat} {f : PF} (o : Ok n f) : ((arr n f).map (·.2)).Nodup := nodup_vals o (fun p hp => (rep_arr o p.1 p.2).mp hp) (nodup_keys_arr n f)
theorem flip_succ {l : List (Nat × Nat)} {i x y : Nat} (h : l[i]? = some (x, y)) : flip (l.take (i + 1)) = flip (l.take i) ++ [(y, x)] := by
  unfold flip
  rw [List.take_add_one, h, List.map_append]
  rfl
theorem ok_inv (T : Txt K mg A) : Good P w K mg base 6 A.inv ["self"] (spInv A.C) := by
  refine T.invF.d.good scInvert (fun vs H Q E h => ?_) (fun cdv B outer s H vs Q E hr h => ?_)
  · obtain ⟨a, n, f, rfl, _⟩ := h
    rfl
  · obtain ⟨a, n, f, rfl, M, q⟩ := h
    have hu := hu_of hr
    have sc := scInvert
    obtain ⟨dx, d, ha, hd⟩ := M.ob
    refine ⟨_, pss_one (ps_ret (pe_makeG T.mke (ok_init T) hr (by rfl) T.mgC (pa_cons (pe_fld (pv 0) rfl) (pa_cons (pe_lock (pe_dc (own := [("source", 1), ("target", 2)]) (g := gTup K 2 (gCons (gName 1) (gCons (gName 2) gNil)))
        (tt := tYes) rfl sc.nd (pi_items (pe_fld (pv 0) rfl))
        (blkOk_by (N := ["self", "source", "target"]) (sc := defScope sInvert) (by decide +kernel))
        (fun _ _ _ _ _ => pg_tup rfl (pgs_cons (pg_name (i := 1) sc.nd rfl (.inl rfl)) (pgs_cons (pg_name (i := 2) sc.nd rfl (.inl rfl)) pgs_nil)))
        (fun _ _ _ _ _ => pts_nil) (fun _ _ _ _ _ => pv 2)
        (fun _ _ _ _ _ => pv 1))) pa_nil)))), ?_⟩
    have nad : a ≠ d := ne_of ha hd (by intro z; cases z)
    refine ⟨_, rfl, a, A.C, dx, _, _, rfl, ha, T.cl, T.nS, mf_size _ _, d, dk (arr n f), hd, True.intro, fun od => ?_⟩
    refine ⟨_, rfl, a, A.C, dx, _, _, rfl, by rw [upd_ne nad]; exact ha, T.cl, T.nA, mf_arrows _ _, d, od, (arr n f).map kp, rfl, upd_same, fun D hD => ?_⟩
    obtain ⟨hD0, nDd⟩ := lock_none hd hD
    refine dc_any (J := Iti d od ((arr n f).map kp)) ((arr n f).map kp).length (fun i H' => Same (upd H d (.frz od (dk (arr n f)))) H' ∧ H' D = some (dk (flip ((arr n f).take i)))) ⟨same_upd hD, by rw [upd_same]; rfl⟩
      (fun i H' hi ⟨s0, _⟩ => ⟨s0 _ _ upd_same, hi⟩) ?_ ?_
    · rintro i v H' H3 hi ⟨s0, hl⟩ ⟨U, k, v, hkv, rfl, hU, rfl⟩
      obtain ⟨x, y, hxy, rfl, rfl⟩ := kp_get hkv
      have nDU : D ≠ U := ne_of_none hl hU
      have s2 := same_upd' s0 hU (o := .tup [kV (Sum.inl (x : Int)), V.int (y : Int)])
      refine ⟨U, _, rfl, SqT.of upd_same, rfl, _, _, rfl, _, _, rfl, rfl, rfl, ?_⟩
      refine ⟨_, rfl, _, rfl, _, Sum.inl (y : Int), rfl, by rw [upd_ne nDU]; exact hl, small1000 ?_, same_put s2 hD, ?_⟩
      · rw [List.length_map]
        unfold flip
        rw [List.length_map, List.length_take]
        have := arr_len (f := f) M.hi
        omega
      · rw [upd_same]
        have e := put_new (l := flip ((arr n f).take i)) (x := y) x (by rw [keys_flip]; exact nodup_fresh (nodup_vals_arr M.ok) hxy)
        rw [flip_succ hxy]
        exact congrArg (fun l => some (HO.dK l)) e
    · rintro H3 ⟨s0, hl⟩
      refine ⟨⟨s0 _ _ upd_same, Nat.le_refl _⟩, s0 _ _ upd_same, ?_⟩
      rw [List.length_map, List.take_length] at hl
      have s3 := same_unlock hd s0
      refine made (l := flip (arr n f)) (F := invF n f) (by rw [upd_ne nDd]; exact hl) (rep_flip M.ok) M.ok.inv M.lo M.hi (by rw [keys_flip]; exact nodup_vals_arr M.ok)
        (fun p H' s4 _ MM => q p H' (s3.trans s4) MM)
end
end CR

namespace CR
open PySem PySem.Spec PyProof.Rows L2 CM
/-! ### two lists of pairs joined -/
theorem put_any {F : PF} {l : List (Nat × Nat)} (so : ∀ p ∈ l, F p.1 = some p.2) (nd : (l.map (·.1)).Nodup) {x y : Nat} (h : F x = some y) :
    ∃ l' : List (Nat × Nat), putK (l.map kp) (Sum.inl (x : Int)) (.int (y : Int)) = l'.map kp ∧ (l'.map (·.1)).Nodup ∧ ∀ p, p ∈ l' ↔ p ∈ l ∨ p = (x, y) := by
  rcases val_cases x l with ⟨y', h1, h2⟩ | ⟨h1, h2⟩
  · have e : y' = y := Option.some.inj ((so _ h1).symm.trans h)
    subst e
    refine ⟨l, ?_, nd, fun p => ⟨.inl, fun q => q.elim id fun e => by rw [e]; exact h1⟩⟩
    unfold putK
    rw [valV_any, h2]
    rw [show (some (V.int (y' : Int))).isSome = true from rfl, if_pos rfl, List.map_map]
    refine List.map_congr_left fun a ha => ?_
    show (if (kp a).1 = Sum.inl (x : Int) then ((kp a).1, V.int (y' : Int)) else kp a) = kp a
    by_cases q : (kp a).1 = Sum.inl (x : Int)
    · rw [if_pos q]
      have ex : a.1 = x := key_inj q
      have e2 := so _ ha
      rw [ex, h] at e2
      have e3 := Option.some.inj e2
      unfold kp
      rw [e3]
    · rw [if_neg q]
  · refine ⟨l ++ [(x, y)], ?_, ?_, fun p => by simp⟩
    · rw [putK_new _ h2, List.map_append]
      rfl
    · rw [List.map_append]
      refine nd_snoc nd fun m => ?_
      obtain ⟨p, hp, e⟩ := List.mem_map.mp m
      have e : p.1 = x := e
      exact h1 p.2 (by rw [← e]; exact hp)
theorem merge_any {F : PF} : ∀ (more l : List (Nat × Nat)), (∀ p ∈ l, F p.1 = some p.2) → (∀ p ∈ more, F p.1 = some p.2) → (l.map (·.1)).Nodup →
    ∃ l' : List (Nat × Nat), mergeK (l.map kp) (more.map kp) = l'.map kp ∧ (l'.map (·.1)).Nodup ∧ ∀ p, p ∈ l' ↔ p ∈ l ∨ p ∈ more
  | [], l, _, _, nd => ⟨l, rfl, nd, fun p => by simp⟩
  | (x, y) :: r, l, so, sm, nd => by
    obtain ⟨l1, e1, nd1, m1⟩ := put_any so nd (sm _ List.mem_cons_self)
    obtain ⟨l2, e2, nd2, m2⟩ := merge_any r l1 (fun p hp => by
      rcases (m1 p).mp hp with q | q
      · exact so p q
      · rw [q]; exact sm _ List.mem_cons_self) (fun p hp => sm p (List.mem_cons_of_mem _ hp)) nd1
    refine ⟨l2, ?_, nd2, fun p => ?_⟩
    · show mergeK (putK (l.map kp) (Sum.inl (x : Int)) (.int (y : Int))) (r.map kp) = _
      rw [e1, e2]
    · rw [m2, m1, List.mem_cons, or_assoc]
def orF (f g : PF) : PF := fun x => match f x with
  | some y => some y
  | none => g x
def compat (f g : PF) : Prop := ∀ x y u v, f x = some y → g u = some v → (x = u ↔ y = v)
theorem or_iff {f g : PF} (c : compat f g) {x y : Nat} : orF f g x = some y ↔ f x = some y ∨ g x = some y := by
  unfold orF
  cases e : f x with
  | none => simp
  | some z =>
    constructor
    · intro h; exact .inl h
    · rintro (h | h)
      · exact h
      · have := (c x z x y e h).mp rfl
        rw [this]
theorem Ok_or {n : Nat} {f g : PF} (a : Ok n f) (b : Ok n g) (c : compat f g) : Ok n (orF f g) where
  dom := fun x y h => ((or_iff c).mp h).elim (a.dom x y) (b.dom x y)
  cod := fun x y h => ((or_iff c).mp h).elim (a.cod x y) (b.cod x y)
  inj := fun x y z h h' => by
    rcases (or_iff c).mp h with h | h <;> rcases (or_iff c).mp h' with h' | h'
    · exact a.inj _ _ _ h h'
    · exact (c x z y z h h').mpr rfl
    · exact ((c y z x z h' h).mpr rfl).symm
    · exact b.inj _ _ _ h h'
theorem merge_or {n : Nat} {f g : PF} (a : Ok n f) (b : Ok n g) (c : compat f g) : ∃ l : List (Nat × Nat), mergeK ((arr n f).map kp) ((arr n g).map kp) = l.map kp ∧ (l.map (·.1)).Nodup ∧ Rep l (orF f g) := by
  obtain ⟨l, e, nd, m⟩ := merge_any (F := orF f g) (arr n g) (arr n f) (fun p hp => (or_iff c).mpr (.inl ((rep_arr a p.1 p.2).mp hp))) (fun p hp => (or_iff c).mpr (.inr ((rep_arr b p.1 p.2).mp hp))) (nodup_keys_arr n f)
  refine ⟨l, e, nd, fun x y => ?_⟩
  rw [m, or_iff c, rep_arr a, rep_arr b]
section
variable {P : Program} {w : World} {K : PySem.W.Frag} {mg : Str → Option Value} {base : Heap} {A : Ad}
/-! ### __or__ -/
theorem scOr : FnScope ["self", "other", "size", "clash"] ["self", "other"] (defScope sOr) := ⟨rfl, rfl, rfl, by decide +kernel, rfl, by decide +kernel, by decide +kernel⟩
theorem ok_or (T : Txt K mg A) : Good P w K mg base 6 A.or ["self", "other"] (spBin A.C compat orF) := by
  refine T.orF.d.good scOr (fun vs H Q E h => ?_) (fun cdv B outer s H vs Q E hr h => ?_)
  · obtain ⟨a, b, n, f, g, rfl, _⟩ := h
    rfl
  · obtain ⟨a, b, n, f, g, rfl, M, N, cm, q⟩ := h
    have hu := hu_of hr
    have sc := scOr
    obtain ⟨dx, d, ha, hd⟩ := M.ob
    obtain ⟨dy, e, hb, he⟩ := N.ob
    refine ⟨_, pss_cons (ps_if (pt_not (pt_val (pe_callB call_isi (by rfl) T.isinstance boot_isinstance (pa_cons (pv 1) (pa_cons (pe_glob (v := .ref A.C) (by rfl) T.mgC rfl) pa_nil))))) (pss_one ps_never) pss_nil)
      (pss_cons (ps_set (i := 2) sc.nd rfl (.inl rfl) (pe_callG (ok_common T) (hr.mono (by decide)) (by rfl) T.commonF.g (pa_cons (pv 0) (pa_cons (pv 1) pa_nil))))
      (pss_cons (ps_set (i := 3) sc.nd rfl (.inl rfl) (pe_callG (ok_firstClash T) (hr.mono (by decide)) (by rfl) T.firstClashF.g (pa_cons (pe_fld (pv 0) rfl) (pa_cons (pe_propG (pv 1) T.cl T.arrowsP (ok_arrows T) (hr.mono (by decide))) pa_nil))))
      (pss_cons (ps_if (pt_cmpR op_notN (pv 3) pe_non (nomark _)) (pss_one ps_never) pss_nil)
      (pss_one (ps_ret (pe_makeG T.mke (ok_init T) hr (by rfl) T.mgC (pa_cons (pv 2) (pa_cons (pe_op op_orD (pe_fld (pv 0) rfl) (pe_propG (pv 1) T.cl T.arrowsP (ok_arrows T) (hr.mono (by decide)))) pa_nil)))))))), ?_⟩
    refine ⟨_, rfl, .ref b, .ref A.C, .ref A.C, .ref A.C, true, rfl, .own _, ty_map T hb, T.ik, _, rfl, iteF ?_⟩
    refine ⟨_, rfl, _, rfl, a, b, n, f, g, rfl, M, N, ?_⟩
    refine ⟨_, rfl, a, A.C, dx, _, _, rfl, ha, T.cl, T.nA, mf_arrows _ _, _, rfl, b, dy, _, rfl, hb, b, n, g, rfl, N, fun t ht => ?_⟩
    have s1 := same_upd ht (o := dk (arr n g))
    have ntd : d ≠ t := ne_of_none hd ht
    refine ⟨d, t, n, f, g, rfl, s1 _ _ hd, upd_same, M.ok, N.ok, ntd, cm, fun H2 s2 => ?_⟩
    refine ⟨_, rfl, rfl, _, rfl, iteF ?_⟩
    have s3 := s1.trans s2
    have N2 := N.same s3
    refine ⟨_, rfl, _, rfl, a, A.C, dx, _, _, rfl, s3 _ _ ha, T.cl, T.nA, mf_arrows _ _, _, rfl, b, dy, _, rfl, s3 _ _ hb, b, n, g, rfl, N2, fun u hu2 => ?_⟩
    have s4 := same_upd hu2 (o := dk (arr n g))
    obtain ⟨l, el, nd, rp⟩ := merge_or M.ok N.ok cm
    refine ⟨d, u, _, _, rfl, rfl, .inl (s4 _ _ (s3 _ _ hd)), .inl upd_same, le_line (by have := arrk_len (f := f) M.hi; have := arrk_len (f := g) M.hi; omega), fun D hD => ?_⟩
    rw [el]
    exact made (l := l) (F := orF f g) upd_same rp (Ok_or M.ok N.ok cm) M.lo M.hi nd (fun p H' s5 _ MM => q p H' (((s3.trans s4).trans (same_upd hD)).trans s5) MM)
/-! ### __le__, __lt__, __ge__, __eq__ -/
def spCmp (C : Addr) (pre : Nat → PF → PF → Prop) (res : Nat → PF → PF → Prop) : Sp := fun vs H Q _ => ∃ (a b : Addr) (n : Nat) (f g : PF), vs = [.ref a, .ref b] ∧ MapAt C H a n f ∧ MapAt C H b n g ∧ pre n f g ∧
  ∀ (r : Bool) H', Same H H' → (r = true ↔ res n f g) → Q (.bl r) H'
abbrev noPre3 : Nat → PF → PF → Prop := fun _ _ _ => True
theorem scLe : FnScope ["self", "other"] ["self", "other"] (defScope sLe) := ⟨rfl, rfl, rfl, by decide +kernel, rfl, by decide +kernel, by decide +kernel⟩
theorem ok_le (T : Txt K mg A) : Good P w K mg base 4 A.le ["self", "other"] (spCmp A.C noPre3 fun _ f g => leF f g) := by
  refine T.leF.d.good scLe (fun vs H Q E h => ?_) (fun cdv B outer s H vs Q E hr h => ?_)
  · obtain ⟨a, b, n, f, g, rfl, _⟩ := h
    rfl
  · obtain ⟨a, b, n, f, g, rfl, M, N, _, q⟩ := h
    obtain ⟨dx, d, ha, hd⟩ := M.ob
    obtain ⟨dy, e, hb, he⟩ := N.ob
    refine ⟨_, pss_cons (ps_if (pt_not (pt_val (pe_callB call_isi (by rfl) T.isinstance boot_isinstance (pa_cons (pv 1) (pa_cons (pe_glob (v := .ref A.C) (by rfl) T.mgC rfl) pa_nil))))) (pss_one ps_never) pss_nil)
      (pss_cons (ps_expr (pe_callG (ok_common T) hr (by rfl) T.commonF.g (pa_cons (pv 0) (pa_cons (pv 1) pa_nil))))
      (pss_one (ps_ret (pe_callG (ok_isPart T) (hr.mono (by decide)) (by rfl) T.isPartF.g (pa_cons (pe_fld (pv 0) rfl) (pa_cons (pe_propG (pv 1) T.cl T.arrowsP (ok_arrows T) (hr.mono (by decide))) pa_nil)))))), ?_⟩
    refine ⟨_, rfl, .ref b, .ref A.C, .ref A.C, .ref A.C, true, rfl, .own _, ty_map T hb, T.ik, _, rfl, iteF ?_⟩
    refine ⟨_, rfl, _, rfl, a, b, n, f, g, rfl, M, N, ?_⟩
    refine ⟨_, rfl, a, A.C, dx, _, _, rfl, ha, T.cl, T.nA, mf_arrows _ _, _, rfl, b, dy, _, rfl, hb, b, n, g, rfl, N, fun t ht => ?_⟩
    have s1 := same_upd ht (o := dk (arr n g))
    exact ⟨d, t, n, f, g, rfl, s1 _ _ hd, upd_same, M.ok, N.ok, M.hi, ne_of_none hd ht, fun r H2 s2 h2 => q r H2 (s1.trans s2) h2⟩
theorem scGe : FnScope ["self", "other"] ["self", "other"] (defScope sGe) := ⟨rfl, rfl, rfl, by decide +kernel, rfl, by decide +kernel, by decide +kernel⟩
theorem ok_ge (T : Txt K mg A) : Good P w K mg base 4 A.ge ["self", "other"] (spCmp A.C noPre3 fun _ f g => leF g f) := by
  refine T.geF.d.good scGe (fun vs H Q E h => ?_) (fun cdv B outer s H vs Q E hr h => ?_)
  · obtain ⟨a, b, n, f, g, rfl, _⟩ := h
    rfl
  · obtain ⟨a, b, n, f, g, rfl, M, N, _, q⟩ := h
    obtain ⟨dx, d, ha, hd⟩ := M.ob
    obtain ⟨dy, e, hb, he⟩ := N.ob
    refine ⟨_, pss_cons (ps_if (pt_not (pt_val (pe_callB call_isi (by rfl) T.isinstance boot_isinstance (pa_cons (pv 1) (pa_cons (pe_glob (v := .ref A.C) (by rfl) T.mgC rfl) pa_nil))))) (pss_one ps_never) pss_nil)
      (pss_cons (ps_expr (pe_callG (ok_common T) hr (by rfl) T.commonF.g (pa_cons (pv 0) (pa_cons (pv 1) pa_nil))))
      (pss_one (ps_ret (pe_callG (ok_isPart T) (hr.mono (by decide)) (by rfl) T.isPartF.g (pa_cons (pe_propG (pv 1) T.cl T.arrowsP (ok_arrows T) (hr.mono (by decide))) (pa_cons (pe_fld (pv 0) rfl) pa_nil)))))), ?_⟩
    refine ⟨_, rfl, .ref b, .ref A.C, .ref A.C, .ref A.C, true, rfl, .own _, ty_map T hb, T.ik, _, rfl, iteF ?_⟩
    refine ⟨_, rfl, _, rfl, a, b, n, f, g, rfl, M, N, ?_⟩
    refine ⟨_, rfl, b, dy, _, rfl, hb, b, n, g, rfl, N, fun t ht => ?_⟩
    have s1 := same_upd ht (o := dk (arr n g))
    refine ⟨_, rfl, a, A.C, dx, _, _, rfl, s1 _ _ ha, T.cl, T.nA, mf_arrows _ _, ?_⟩
    exact ⟨t, d, n, g, f, rfl, upd_same, s1 _ _ hd, N.ok, M.ok, M.hi, (ne_of_none hd ht).symm, fun r H2 s2 h2 => q r H2 (s1.trans s2) h2⟩
theorem scLt : FnScope ["self", "other"] ["self", "other"] (defScope sLt) := ⟨rfl, rfl, rfl, by decide +kernel, rfl, by decide +kernel, by decide +kernel⟩
theorem ok_lt (T : Txt K mg A) : Good P w K mg base 4 A.lt ["self", "other"] (spCmp A.C noPre3 fun _ f g => leF f g ∧ f ≠ g) := by
  refine T.ltF.d.good scLt (fun vs H Q E h => ?_) (fun cdv B outer s H vs Q E hr h => ?_)
  · obtain ⟨a, b, n, f, g, rfl, _⟩ := h
    rfl
  · obtain ⟨a, b, n, f, g, rfl, M, N, _, q⟩ := h
    obtain ⟨dx, d, ha, hd⟩ := M.ob
    obtain ⟨dy, e, hb, he⟩ := N.ob
    refine ⟨_, pss_cons (ps_if (pt_not (pt_val (pe_callB call_isi (by rfl) T.isinstance boot_isinstance (pa_cons (pv 1) (pa_cons (pe_glob (v := .ref A.C) (by rfl) T.mgC rfl) pa_nil))))) (pss_one ps_never) pss_nil)
      (pss_cons (ps_expr (pe_callG (ok_common T) hr (by rfl) T.commonF.g (pa_cons (pv 0) (pa_cons (pv 1) pa_nil))))
      (pss_one (ps_ret (pe_and (pe_callG (ok_isPart T) (hr.mono (by decide)) (by rfl) T.isPartF.g (pa_cons (pe_fld (pv 0) rfl) (pa_cons (pe_propG (pv 1) T.cl T.arrowsP (ok_arrows T) (hr.mono (by decide))) pa_nil)))
        (pe_one (pe_cmpR op_lt (pe_callB call_lenD (by rfl) T.len PySem.boot_len (pa_cons (pe_fld (pv 0) rfl) pa_nil)) (pe_callB call_lenD (by rfl) T.len PySem.boot_len (pa_cons (pe_propG (pv 1) T.cl T.arrowsP (ok_arrows T) (hr.mono (by decide))) pa_nil)) (nomark _))))))), ?_⟩
    refine ⟨_, rfl, .ref b, .ref A.C, .ref A.C, .ref A.C, true, rfl, .own _, ty_map T hb, T.ik, _, rfl, iteF ?_⟩
    refine ⟨_, rfl, _, rfl, a, b, n, f, g, rfl, M, N, ?_⟩
    refine ⟨_, rfl, a, A.C, dx, _, _, rfl, ha, T.cl, T.nA, mf_arrows _ _, _, rfl, b, dy, _, rfl, hb, b, n, g, rfl, N, fun t ht => ?_⟩
    have s1 := same_upd ht (o := dk (arr n g))
    refine ⟨d, t, n, f, g, rfl, s1 _ _ hd, upd_same, M.ok, N.ok, M.hi, ne_of_none hd ht, fun r H2 s2 h2 => ⟨r, rfl, ?_⟩⟩
    have s3 := s1.trans s2
    cases r with
    | false =>
      refine iteF (q false _ s3 ⟨fun z => (nomatch z), fun z => ?_⟩)
      exact nomatch h2.mpr z.1
    | true =>
      refine iteT ?_
      have N2 := N.same s3
      refine ⟨_, rfl, a, A.C, dx, _, _, rfl, s3 _ _ ha, T.cl, T.nA, mf_arrows _ _, d, _, rfl, s3 _ _ hd, _, rfl, b, dy, _, rfl, s3 _ _ hb, b, n, g, rfl, N2, fun u hu2 => ?_⟩
      have s4 := same_upd hu2 (o := dk (arr n g))
      refine ⟨u, _, rfl, upd_same, _, _, rfl, rfl, ?_⟩
      refine q _ _ (s3.trans s4) ?_
      have hle := h2.mp rfl
      have h5 := len_le (n := n) hle
      rw [decide_eq_true_iff, List.length_map, List.length_map]
      constructor
      · intro h6
        refine ⟨hle, fun e => ?_⟩
        rw [e] at h6
        omega
      · rintro ⟨_, h6⟩
        by_cases h7 : (arr n f).length = (arr n g).length
        · exact absurd (eq_of_len N.ok hle h7) h6
        · omega
theorem scEq : FnScope ["self", "other"] ["self", "other"] (defScope sEq) := ⟨rfl, rfl, rfl, by decide +kernel, rfl, by decide +kernel, by decide +kernel⟩
theorem ok_eq (T : Txt K mg A) : Good P w K mg base 1 A.eq ["self", "other"] (spCmp A.C (fun n f g => f = g ∨ (arr n f).length ≠ (arr n g).length) fun _ f g => f = g) := by
  refine T.eqF.d.good scEq (fun vs H Q E h => ?_) (fun cdv B outer s H vs Q E hr h => ?_)
  · obtain ⟨a, b, n, f, g, rfl, _⟩ := h
    rfl
  · obtain ⟨a, b, n, f, g, rfl, M, N, pr, q⟩ := h
    obtain ⟨dx, d, ha, hd⟩ := M.ob
    obtain ⟨dy, e, hb, he⟩ := N.ob
    refine ⟨_, pss_cons (ps_if (pt_not (pt_val (pe_callB call_isi (by rfl) T.isinstance boot_isinstance (pa_cons (pv 1) (pa_cons (pe_glob (v := .ref A.C) (by rfl) T.mgC rfl) pa_nil))))) (pss_one ps_never) pss_nil)
      (pss_one (ps_ret (pe_and (pe_cmpR op_eq (pe_fld (pv 0) rfl) (pe_fld (pv 1) rfl) (nomark _)) (pe_one (pe_cmpR (op_eqDB hr.units0) (pe_fld (pv 0) rfl) (pe_fld (pv 1) rfl) (nomark _)))))), ?_⟩
    refine ⟨_, rfl, .ref b, .ref A.C, .ref A.C, .ref A.C, true, rfl, .own _, ty_map T hb, T.ik, _, rfl, iteF ?_⟩
    refine ⟨_, rfl, a, A.C, dx, _, _, rfl, ha, T.cl, T.nS, mf_size _ _, _, rfl, b, A.C, dy, _, _, rfl, hb, T.cl, T.nS, mf_size _ _, rfl, _, rfl, ?_⟩
    rw [decide_eq_true rfl]
    refine iteT ?_
    refine ⟨_, rfl, a, A.C, dx, _, _, rfl, ha, T.cl, T.nA, mf_arrows _ _, _, rfl, b, A.C, dy, _, _, rfl, hb, T.cl, T.nA, mf_arrows _ _, d, e, _, _, rfl, rfl, hd, he, ?_⟩
    by_cases hl : (arr n f).length = (arr n g).length
    · have e1 : f = g := pr.elim id fun z => absurd hl z
      subst e1
      refine .inl ⟨rfl, fun p hp => ⟨?_, flat_kp _ p hp⟩, q true H (Same.refl H) ⟨fun _ => rfl, fun _ => rfl⟩⟩
      obtain ⟨z, hz, rfl⟩ := List.mem_map.mp hp
      show valV ((arr n f).map kp) (Sum.inl (z.1 : Int)) = some (V.int (z.2 : Int))
      rw [val_arr M.ok, (rep_arr M.ok z.1 z.2).mp hz]
      rfl
    · refine .inr ⟨by rw [List.length_map, List.length_map]; exact hl, q false H (Same.refl H) ⟨fun z => (nomatch z), fun z => ?_⟩⟩
      rw [z] at hl
      exact absurd rfl hl
/-! ### the classmethods -/
def spCls (C : Addr) (res : Nat → PF) : Sp := fun vs H Q _ => ∃ (n : Nat), vs = [.ref C, .int (n : Int)] ∧ 1 ≤ n ∧ n ≤ 300 ∧ ∀ p H', Same H H' → MapAt C H' p n (res n) → Q (.ref p) H'
theorem scEmpty : FnScope ["cls", "size"] ["cls", "size"] (defScope sEmpty) := ⟨rfl, rfl, rfl, by decide +kernel, rfl, by decide +kernel, by decide +kernel⟩
theorem ok_empty (T : Txt K mg A) : Good P w K mg base 6 A.empty ["cls", "size"] (spCls A.C fun _ => noF) := by
  refine T.emptyF.good scEmpty (fun vs H Q E h => ?_) (fun cdv B outer s H vs Q E hr h => ?_)
  · obtain ⟨n, rfl, _⟩ := h
    rfl
  · obtain ⟨n, rfl, h1, h3, q⟩ := h
    refine ⟨_, pss_cons (ps_expr (pe_callG (ok_checkSize T) (hr.mono (by decide)) (by rfl) T.checkSizeF.g (pa_cons (pv 1) pa_nil)))
      (pss_one (ps_ret (pe_makeLG (i := 0) T.mke (ok_init T) hr rfl (.inl rfl) (pa_cons (pv 1) (pa_cons pe_dnewK pa_nil))))), ?_⟩
    refine ⟨_, rfl, (n : Int), rfl, by omega, by omega, ?_⟩
    refine ⟨rfl, _, rfl, fun D hD => ?_⟩
    exact made (l := []) (F := noF) upd_same (fun x y => ⟨fun h => (nomatch h), fun h => (nomatch h)⟩) (Ok.no n) h1 h3 (by simp) (fun p H' s1 _ MM => q p H' ((same_upd hD).trans s1) MM)
theorem scIdentity : FnScope ["cls", "size", "element"] ["cls", "size"] (defScope sIdentity) := ⟨rfl, rfl, rfl, by decide +kernel, rfl, by decide +kernel, by decide +kernel⟩
theorem ok_identity (T : Txt K mg A) : Good P w K mg base 6 A.identity ["cls", "size"] (spCls A.C idF) := by
  refine T.identityF.good scIdentity (fun vs H Q E h => ?_) (fun cdv B outer s H vs Q E hr h => ?_)
  · obtain ⟨n, rfl, _⟩ := h
    rfl
  · obtain ⟨n, rfl, h1, h3, q⟩ := h
    have sc := scIdentity
    refine ⟨_, pss_cons (ps_expr (pe_callG (ok_checkSize T) (hr.mono (by decide)) (by rfl) T.checkSizeF.g (pa_cons (pv 1) pa_nil)))
      (pss_one (ps_ret (pe_makeLG (i := 0) T.mke (ok_init T) hr rfl (.inl rfl) (pa_cons (pv 1) (pa_cons (pe_dc (own := [("element", 2)]) (g := gName 2) (tt := tYes) rfl sc.nd (pi_range1 (by rfl) T.range (pa_cons (pv 1) pa_nil))
        (blkOk_by (N := ["cls", "size", "element"]) (sc := defScope sIdentity) (by decide +kernel))
        (fun _ _ _ _ _ => pg_name (i := 2) sc.nd rfl (.inl rfl)) (fun _ _ _ _ _ => pts_nil) (fun _ _ _ _ _ => pv 2) (fun _ _ _ _ _ => pv 2)) pa_nil))))), ?_⟩
    refine ⟨_, rfl, (n : Int), rfl, by omega, by omega, ?_⟩
    refine ⟨rfl, _, rfl, ?_⟩
    refine ⟨_, rfl, (n : Int), rfl, by omega, by omega, fun D hD => ?_⟩
    rw [Int.toNat_natCast]
    refine dc_any (J := Itr 0 n) n (fun i H' => Same H H' ∧ H' D = some (dk (arr i (idF n)))) ⟨same_upd hD, by rw [upd_same]; rfl⟩ (fun i H' hi _ => hi) ?_ ?_
    · rintro i v H' H3 hi ⟨s0, hl⟩ ⟨rfl, rfl⟩
      rw [Int.zero_add]
      have e : idF n i = some i := id_iff.mpr ⟨hi, rfl⟩
      refine ⟨rfl, ?_⟩
      refine ⟨_, rfl, _, rfl, _, Sum.inl (i : Int), rfl, hl, small1000 (by rw [List.length_map]; have := length_arr i (idF n); omega), same_put s0 hD, ?_⟩
      rw [upd_same, put_arr e]
      rfl
    · rintro H3 ⟨s0, hl⟩
      refine ⟨Nat.le_refl _, ?_⟩
      exact made (l := arr n (idF n)) (F := idF n) hl (rep_arr (Ok.id n)) (Ok.id n) h1 h3 (nodup_keys_arr n _) (fun p H' s1 _ MM => q p H' (s0.trans s1) MM)
end
end CR

namespace CR
open PySem PySem.Spec PyProof.Rows L2 CM
theorem Fd_add {n : Nat} {f : PF} {k : Nat} {S S' : List Nat} {l : List (Nat × Nat)} {y : Nat} (F : Fd n f k S l) (h : ∀ w, iter f k y = some w → (y, w) ∈ l) (nd : S'.Nodup) (m : ∀ z, z ∈ S' ↔ z ∈ S ∨ z = y) (hy : y < n) : Fd n f k S' l where
  sound := F.sound
  full := fun x hx w hw => by
    rcases (m x).mp hx with q | q
    · exact F.full x q w hw
    · rw [q] at hw ⊢
      exact h w hw
  nd := F.nd
  ndS := nd
  lt := fun x hx => by
    rcases (m x).mp hx with q | q
    · exact F.lt x q
    · rw [q]; exact hy
theorem keysV (l : List (Nat × Nat)) : (l.map kp).map (fun kv => kV kv.1) = nV (l.map (·.1)) := by
  unfold nV
  rw [List.map_map, List.map_map]
  rfl
theorem ints_get {r : List Nat} {j : Nat} (h : j < r.length) : (nV r)[j]? = some ((nV r)[j]'(by rw [nV_len]; exact h)) := List.getElem?_eq_getElem _
section
variable {P : Program} {w : World} {K : PySem.W.Frag} {mg : Str → Option Value} {base : Heap} {A : Ad}
/-! ### moved -/
/-- the arrows at d, an exponent k of at least 1: a dict of the arrows of the k-th power -/
def spMoved : Sp := fun vs H Q _ => ∃ (d : Addr) (n k : Nat) (f : PF) (l : List (Nat × Nat)), vs = [.ref d, .int (k : Int)] ∧ H d = some (dk l) ∧ Rep l f ∧ l.length ≤ 300 ∧ Ok n f ∧ 0 < k ∧ n ≤ 300 ∧
  ∀ (p : Addr) (l' : List (Nat × Nat)) H', Same H H' → H' p = some (dk l') → Rep l' (powF n f (k : Int)) → (l'.map (·.1)).Nodup → Q (.ref p) H'
theorem scMoved : FnScope ["arrows", "steps", "found", "seen", "targets", "element", "source", "row", "closed", "place", "target"] ["arrows", "steps"] (defScope sMoved) := ⟨rfl, rfl, rfl, by decide +kernel, rfl, by decide +kernel, by decide +kernel⟩
theorem ok_moved (T : Txt K mg A) : Good P w K mg base 2 A.moved ["arrows", "steps"] spMoved := by
  refine T.movedF.d.good scMoved (fun vs H Q E h => ?_) (fun cdv B outer s H vs Q E hr h => ?_)
  · obtain ⟨d, n, k, f, l, rfl, _⟩ := h
    rfl
  · obtain ⟨d, n, k, f, l, rfl, hd, rp, hll, of, hk, hn, q⟩ := h
    have hu := hu_of hr
    have sc := scMoved
    refine ⟨_, pss_cons (ps_set (i := 2) sc.nd rfl (.inl rfl) pe_dnewK) (pss_cons (ps_set (i := 3) sc.nd rfl (.inl rfl) pe_dnewK)
      (pss_cons (ps_lock (ps_set (i := 4) sc.nd rfl (.inr rfl) (pe_dc (own := [("target", 10)]) (g := gName 10) (tt := tYes) rfl sc.nd (pi_values (pv 0))
        (blkOk_by (N := ["arrows", "steps", "found", "seen", "targets", "element", "source", "row", "closed", "place", "target"]) (sc := defScope sMoved) (by decide +kernel))
        (fun _ _ _ _ _ => pg_name (i := 10) sc.nd rfl (.inl rfl)) (fun _ _ _ _ _ => pts_nil) (fun _ _ _ _ _ => pv 10) (fun _ _ _ _ _ => pe_bl))))
      (pss_cons (ps_for PassesOwn.never rfl (pi_list (pe_op op_cat (pe_lock (pe_lc (own := [("element", 5)]) (g := gName 5) (tt := tB (tDNotIn (tVar 5) (tVar 4))) rfl sc.nd (pi_keys (pv 0))
          (blkOk_by (N := ["arrows", "steps", "found", "seen", "targets", "element", "source", "row", "closed", "place", "target"]) (sc := defScope sMoved) (by decide +kernel))
          (fun _ _ _ _ _ => pg_name (i := 5) sc.nd rfl (.inl rfl)) (fun _ _ _ _ _ => pts_one (pt_cmp (pc_dnotin hu (pv 5) (pv 4)))) (fun _ _ _ _ _ => pv 5)))
          (pe_callTy (call_listD rfl) (by rfl) T.list boot_list (pa_cons (pv 0) pa_nil)))) (pg_name (i := 6) sc.nd rfl (.inl rfl))
        (pss_one (ps_if (pt_cmp (pc_dnotin hu (pv 6) (pv 3)))
          (pss_cons (ps_set (i := 7) sc.nd rfl (.inl rfl) (pe_callG (ok_rowFrom T) hr (by rfl) T.rowFromF.g (pa_cons (pv 0) (pa_cons (pv 6) pa_nil))))
          (pss_cons (ps_set (i := 8) sc.nd rfl (.inl rfl) (pe_cmp (pc_din hu (pe_ix ix_list (pv 7) (pe_un un_neg pe_int) (fun _ _ => rfl)) (pv 0)) (by rfl)))
          (pss_one (ps_for PassesOwn.never rfl (pi_enum (by rfl) T.enumerate (pa_cons (pv 7) pa_nil)) (pg_tup rfl (pgs_cons (pg_name (i := 9) sc.nd rfl (.inl rfl)) (pgs_cons (pg_name (i := 5) sc.nd rfl (.inl rfl)) pgs_nil)))
            (pss_cons (ps_dput hu (pv 3) (pv 5) pe_bl rfl)
            (pss_one (ps_if (pt_val (pv 8))
              (pss_one (ps_dput hu (pv 2) (pv 5) (pe_ix ix_list (pv 7) (pe_op op_mod (pe_op op_add (pv 9) (pv 1)) (pe_callB call_len_seq (by rfl) T.len PySem.boot_len (pa_cons (pv 7) pa_nil))) (fun _ _ => rfl)) rfl))
              (pss_one (ps_if (pt_cmpR op_lt (pe_op op_add (pv 9) (pv 1)) (pe_callB call_len_seq (by rfl) T.len PySem.boot_len (pa_cons (pv 7) pa_nil)) (nomark _))
                (pss_one (ps_dput hu (pv 2) (pv 5) (pe_ix ix_list (pv 7) (pe_op op_add (pv 9) (pv 1)) (fun _ _ => rfl)) rfl)) pss_nil)))))))))
          pss_nil)))
      (pss_one (ps_ret (pv 2)))))), ?_⟩
    intro p1 h1
    intro p2 h2
    have n1 : p2 ≠ p1 := fun z => by rw [z, upd_same] at h2; cases h2
    have h2' : H p2 = none := by rw [upd_ne n1] at h2; exact h2
    have s2 : Same H (upd (upd H p1 (.dK [])) p2 (.dK [])) := same_upd' (same_upd h1) h2
    have hp1 : (upd (upd H p1 (.dK [])) p2 (.dK [])) p1 = some (dk []) := by rw [upd_ne n1.symm, upd_same]; rfl
    have hp2 : (upd (upd H p1 (.dK [])) p2 (.dK [])) p2 = some (.dK (sk [])) := by rw [upd_same]; rfl
    generalize upd (upd H p1 (.dK [])) p2 (.dK []) = H2 at s2 hp1 hp2 ⊢
    have hd2 := s2 _ _ hd
    -- targets
    refine ⟨d, dk l, hd2, True.intro, fun od => ?_⟩
    refine ⟨_, rfl, d, od, l.map kp, rfl, upd_same, fun t ht => ?_⟩
    obtain ⟨ht0, ntd⟩ := lock_none hd2 ht
    refine dc_any (J := Itd d od (l.map kp)) (l.map kp).length (fun i H' => Same (upd H2 d (.frz od (dk l))) H' ∧ ∃ S, H' t = some (.dK (sk S)) ∧ S.length ≤ i) ⟨same_upd ht, [], by rw [upd_same]; rfl, Nat.le_refl _⟩
      (fun i H' hi ⟨s0, _⟩ => ⟨s0 _ _ upd_same, hi⟩) ?_ ?_
    · rintro i v H' H3 hi ⟨s0, S, hS, hlS⟩ ⟨rfl, kk, hkv⟩
      obtain ⟨x, y, hxy, rfl, rfl⟩ := kp_get hkv
      obtain ⟨S', e1, _, _⟩ := seen_put S y
      refine ⟨rfl, ?_⟩
      refine ⟨_, rfl, _, Sum.inl (y : Int), rfl, hS, small1000 (by unfold sk; rw [List.length_map]; rw [List.length_map] at hi; omega), same_put s0 ht, S', by rw [upd_same, e1], ?_⟩
      have e2 := length_putK (sk S) (Sum.inl (y : Int)) (.bl true)
      rw [e1] at e2
      unfold sk at e2
      rw [List.length_map, List.length_map] at e2
      omega
    rintro H3 ⟨s0, S0, hS0, _⟩
    refine ⟨⟨s0 _ _ upd_same, Nat.le_refl _⟩, s0 _ _ upd_same, ?_⟩
    have s3 := same_unlock hd2 s0
    have ht3 : (upd H3 d (dk l)) t = some (.dK (sk S0)) := by rw [upd_ne ntd]; exact hS0
    generalize upd H3 d (dk l) = H4 at s3 ht3 ⊢
    have hd4 := s3 _ _ hd2
    have ntd' : t ≠ d := ntd
    -- the sources
    refine ⟨d, dk l, hd4, True.intro, fun oe => ?_⟩
    refine ⟨_, rfl, d, oe, rfl, .inl ⟨l.map kp, upd_same, fun D hD => ?_⟩⟩
    obtain ⟨hD0, nDd⟩ := lock_none hd4 hD
    refine lc_any (J := Itk d oe (l.map kp)) (l.map kp).length (fun i H' => Same (upd H4 d (.frz oe (dk l))) H' ∧ ∃ ks : List Nat, H' D = some (.lst (nV ks)) ∧ ks.length ≤ i ∧ ∀ x ∈ ks, x ∈ l.map (·.1)) ⟨same_upd hD, [], by rw [upd_same]; rfl, Nat.le_refl _, fun x hx => (nomatch hx)⟩
      (fun i H' hi ⟨s0, _⟩ => ⟨s0 _ _ upd_same, hi⟩) ?_ ?_
    · rintro i v H' H5 hi ⟨s0, ks, hks, hlk, mk⟩ ⟨rfl, kk, vv, hkv, rfl⟩
      obtain ⟨x, y, hxy, rfl, rfl⟩ := kp_get hkv
      have ht5 := s0 t _ (by rw [upd_ne ntd']; exact ht3)
      refine ⟨rfl, ?_⟩
      refine ⟨_, rfl, _, rfl, t, _, rfl, DGet.k (k := Sum.inl (x : Int)) ht5, _, rfl, ?_⟩
      cases (!(valV (sk S0) (Sum.inl (x : Int))).isSome) with
      | false => exact iteF ⟨s0, ks, hks, Nat.le_succ_of_le hlk, mk⟩
      | true =>
        refine iteT ?_
        refine ⟨_, rfl, nV ks, hks, small1000 (by rw [nV_len]; rw [List.length_map] at hi; omega), same_put s0 hD, ks ++ [x], ?_, by rw [List.length_append, List.length_singleton]; omega, fun z hz => ?_⟩
        · rw [upd_same]
          unfold nV
          rw [List.map_append]
          rfl
        · rcases List.mem_append.mp hz with e | e
          · exact mk z e
          · rw [List.mem_singleton.mp e]
            exact List.mem_map.mpr ⟨(x, y), List.mem_of_getElem? hxy, rfl⟩
    rintro H5 ⟨s5, ks, hks, hlk, mk⟩
    refine ⟨⟨s5 _ _ upd_same, Nat.le_refl _⟩, s5 _ _ upd_same, ?_⟩
    have s6 := same_unlock hd4 s5
    have hD6 : (upd H5 d (dk l)) D = some (.lst (nV ks)) := by rw [upd_ne nDd]; exact hks
    rw [List.length_map] at hlk
    generalize upd H5 d (dk l) = H6 at s6 hD6 ⊢
    have hd6 := s6 _ _ hd4
    refine ⟨_, rfl, d, l.map kp, rfl, .inl hd6, fun D2 hD2 => ?_⟩
    rw [keysV]
    have nDD2 : D ≠ D2 := ne_of_none hD6 hD2
    refine ⟨D, D2, nV ks, nV (l.map (·.1)), rfl, rfl, by rw [upd_ne nDD2]; exact hD6, upd_same, le_line (by rw [nV_len, nV_len, List.length_map]; omega), fun a ha => ?_⟩
    have eL : nV ks ++ nV (l.map (·.1)) = nV (ks ++ l.map (·.1)) := by unfold nV; rw [List.map_append]
    rw [eL]
    have hsrc : ∀ x ∈ ks ++ l.map (·.1), ∃ y, f x = some y := fun x hx => by
      have hx : x ∈ l.map (·.1) := (List.mem_append.mp hx).elim (mk x) id
      obtain ⟨p, hp, rfl⟩ := List.mem_map.mp hx
      exact ⟨p.2, (rp p.1 p.2).mp hp⟩
    have hall : ∀ x y, f x = some y → x ∈ ks ++ l.map (·.1) := fun x y h => List.mem_append_right _ (List.mem_map.mpr ⟨(x, y), (rp x y).mpr h, rfl⟩)
    generalize ks ++ l.map (·.1) = src at hsrc hall ha ⊢
    have s7 : Same H2 (upd (upd H6 D2 (.lst (nV (l.map (·.1))))) a (.lst (nV src))) := same_upd' (same_upd' (s3.trans s6) hD2) ha
    have ha7 : (upd (upd H6 D2 (.lst (nV (l.map (·.1))))) a (.lst (nV src))) a = some (.lst (nV src)) := upd_same
    generalize upd (upd H6 D2 (.lst (nV (l.map (·.1))))) a (.lst (nV src)) = H7 at s7 ha7 ⊢
    refine ⟨a, rfl, ⟨_, SqL.of ha7⟩, for_list (K := K) (a := a) (xs := nV src) (fun i σ H' => ∃ (S : List Nat) (l' : List (Nat × Nat)) (e5 e6 e7 e8 e9 : Option V),
        σ = [some (.ref d), some (.int (k : Int)), some (.ref p1), some (.ref p2), some (.ref t), e5, e6, e7, e8, e9, none] ∧ Same H H' ∧ H' a = some (.lst (nV src)) ∧ H' p1 = some (dk l') ∧ H' p2 = some (.dK (sk S)) ∧ Fd n f k S l' ∧
        ∀ (j x : Nat), j < i → src[j]? = some x → x ∈ S)
      ⟨[], [], none, none, none, none, none, rfl, s2.trans s7, ha7, s7 _ _ hp1, s7 _ _ hp2, Fd.zero, fun j x hj => absurd hj (Nat.not_lt_zero _)⟩
      (fun i σ H' _ ⟨_, _, _, _, _, _, _, _, _, h, _⟩ => SqL.of h) ?_ ?_⟩
    · rintro i v σ H' hi ⟨S, l', e5, e6, e7, e8, e9, rfl, s8, ha8, hp1, hp2, F, vis⟩
      obtain ⟨x, hx, rfl⟩ : ∃ x, src[i]? = some x ∧ v = V.int (x : Int) := by
        unfold nV at hi
        rw [List.getElem?_map] at hi
        cases e : src[i]? with
        | none => rw [e] at hi; cases hi
        | some x => rw [e] at hi; exact ⟨x, rfl, (Option.some.inj hi).symm⟩
      obtain ⟨y0, hy0⟩ := hsrc x (List.mem_of_getElem? hx)
      have hxn := of.dom _ _ hy0
      refine ⟨_, rfl, _, rfl, p2, _, rfl, DGet.k (k := Sum.inl (x : Int)) hp2, _, rfl, ?_⟩
      rw [seen_val]
      by_cases hxS : x ∈ S
      · rw [decide_eq_true hxS]
        refine iteF ⟨S, l', e5, _, e7, e8, e9, rfl, s8, ha8, hp1, hp2, F, fun j z hj hz => ?_⟩
        by_cases q : j = i
        · subst q; rw [hx] at hz; cases hz; exact hxS
        · exact vis j z (by omega) hz
      · rw [decide_eq_false hxS]
        refine iteT ?_
        have hd8 := s8 _ _ hd
        refine ⟨_, rfl, _, rfl, d, n, x, f, l, rfl, hd8, rp, of, hxn, hn, fun p r z H9 s9 _ hpr R hz hend => ?_⟩
        have hd9 := s9 _ _ hd8
        refine ⟨_, rfl, _, rfl, p, nV r, -1, _, rfl, rfl, SqL.of hpr, nV_last hz, _, rfl, d, _, rfl, dget_rep rp hd9 z, ?_⟩
        refine ⟨_, rfl, p, nV r, rfl, SqL.of hpr, ?_⟩
        refine for_any (J := Ite K p) r.length (fun j σ H' => ∃ (S2 : List Nat) (l2 : List (Nat × Nat)) (e5 e9 : Option V),
            σ = [some (.ref d), some (.int (k : Int)), some (.ref p1), some (.ref p2), some (.ref t), e5, some (.int (x : Int)), some (.ref p), some (.bl ((f z).map fun y : Nat => V.int (y : Int)).isSome), e9, none] ∧
            Same H H' ∧ H' a = some (.lst (nV src)) ∧ H' p = some (.lst (nV r)) ∧ H' p1 = some (dk l2) ∧ H' p2 = some (.dK (sk S2)) ∧ Fd n f k S2 l2 ∧ (∀ z ∈ S, z ∈ S2) ∧ ∀ (m y : Nat), m < j → r[m]? = some y → y ∈ S2)
          ⟨S, l', e5, e9, rfl, s8.trans s9, s9 _ _ ha8, hpr, s9 _ _ hp1, s9 _ _ hp2, F, fun z h => h, fun m y hm => absurd hm (Nat.not_lt_zero _)⟩
          (fun j σ H' hj ⟨_, _, _, _, _, _, _, h, _⟩ => ⟨nV r, _, SqL.of h, ints_get hj⟩) ?_ ?_
        · rintro j σ H' v H2' hj ⟨S2, l2, e5, e9, rfl, sA, hA, hP, hP1, hP2, F2, sub2, vis2⟩ ⟨U, xv, rfl, hU, rfl, hxv⟩
          obtain ⟨y, hy⟩ : ∃ y, r[j]? = some y := ⟨r[j], List.getElem?_eq_getElem hj⟩
          have e := hxv _ (SqL.of hP)
          rw [nV_at hy] at e
          obtain rfl := Option.some.inj e
          have hyn := R.lt y (List.mem_of_getElem? hy)
          have hlen := R.len
          have nU1 : p1 ≠ U := ne_of_none hP1 hU
          have nU2 : p2 ≠ U := ne_of_none hP2 hU
          have nUP : p ≠ U := ne_of_none hP hU
          have nUa : a ≠ U := ne_of_none hA hU
          have n12 : p1 ≠ p2 := fun z => n1 z.symm
          have nP1 : p ≠ p1 := ne_of hP hP1 (by intro z; cases z)
          have nP2 : p ≠ p2 := ne_of hP hP2 (by intro z; cases z)
          have na1 : a ≠ p1 := ne_of hA hP1 (by intro z; cases z)
          have na2 : a ≠ p2 := ne_of hA hP2 (by intro z; cases z)
          refine ⟨U, _, rfl, SqT.of upd_same, rfl, _, _, rfl, _, _, rfl, rfl, ?_⟩
          obtain ⟨S3, e3, nd3, m3⟩ := seen_put S2 y
          refine ⟨_, rfl, _, rfl, p2, _, rfl, DPut.k (k := Sum.inl (y : Int)) (by rw [upd_ne nU2]; exact hP2) (small1000 (by unfold sk; rw [List.length_map]; have := F2.lenS; omega)), ?_⟩
          rw [e3]
          have hs : Same H (upd (upd H' U (.tup [.int (j : Nat), .int (y : Int)])) p2 (.dK (sk S3))) := same_put (same_upd' sA hU) h2'
          have gA : (upd (upd H' U (.tup [.int (j : Nat), .int (y : Int)])) p2 (.dK (sk S3))) a = some (.lst (nV src)) := by rw [upd_ne na2, upd_ne nUa]; exact hA
          have gP : (upd (upd H' U (.tup [.int (j : Nat), .int (y : Int)])) p2 (.dK (sk S3))) p = some (.lst (nV r)) := by rw [upd_ne nP2, upd_ne nUP]; exact hP
          have g1 : (upd (upd H' U (.tup [.int (j : Nat), .int (y : Int)])) p2 (.dK (sk S3))) p1 = some (dk l2) := by rw [upd_ne n12, upd_ne nU1]; exact hP1
          have g2 : (upd (upd H' U (.tup [.int (j : Nat), .int (y : Int)])) p2 (.dK (sk S3))) p2 = some (.dK (sk S3)) := upd_same
          generalize upd (upd H' U (.tup [.int (j : Nat), .int (y : Int)])) p2 (.dK (sk S3)) = HB at hs gA gP g1 g2 ⊢
          have sub3 : ∀ z ∈ S, z ∈ S3 := fun z h => (m3 z).mpr (.inl (sub2 z h))
          have vis3 : ∀ (m w : Nat), m < j + 1 → r[m]? = some w → w ∈ S3 := fun m w hm hw => by
            by_cases q : m = j
            · subst q; rw [hy] at hw; cases hw; exact (m3 _).mpr (.inr rfl)
            · exact (m3 w).mpr (.inl (vis2 m w (by omega) hw))
          -- a found value is put
          have put : ∀ w : Nat, iter f k y = some w → ∃ l3 : List (Nat × Nat), putK (l2.map kp) (Sum.inl (y : Int)) (.int (w : Int)) = l3.map kp ∧ Fd n f k S3 l3 := fun w hw => by
            obtain ⟨l3, e4, F3, m4, _⟩ := Fd_put F2 hw
            exact ⟨l3, e4, Fd_add F3 (fun w' hw' => by rw [hw] at hw'; cases hw'; exact m4) (nd3 F2.ndS) m3 hyn⟩
          have h1n : H p1 = none := h1
          cases ez : f z with
          | some w0 =>
            have ew : w0 = x := by
              rcases hend with q | q
              · rw [ez] at q; cases q
              · rw [ez] at q; exact Option.some.inj q
            subst ew
            refine ⟨_, rfl, _, rfl, iteT ?_⟩
            have hm : (j + k) % r.length < r.length := Nat.mod_lt _ R.ne
            have hw : r[(j + k) % r.length]? = some (r[(j + k) % r.length]'hm) := List.getElem?_eq_getElem hm
            have hit := R.iter_closed hz ez k j y hy
            rw [hw] at hit
            obtain ⟨l3, e4, F3⟩ := put _ hit
            refine ⟨_, rfl, _, rfl, _, rfl, _, _, rfl, rfl, _, rfl, p, _, rfl, .inl (SqL.of gP), _, _, rfl, rfl, ?_, p, nV r, _, _, rfl, rfl, SqL.of gP, at_of (j := (j + k) % r.length) ?_ (nV_at hw), ?_⟩
            · show (0 : Int) < ((nV r).length : Nat)
              rw [nV_len]
              have := R.ne
              omega
            · show ((j : Int) + (k : Int)) % (((nV r).length : Nat) : Int) = _
              rw [nV_len, ← Int.natCast_add, ← Int.natCast_emod]
            refine ⟨_, rfl, _, rfl, p1, _, rfl, DPut.k (k := Sum.inl (y : Int)) g1 (small1000 (by rw [List.length_map]; have := F2.len of hk; omega)), ?_⟩
            rw [e4]
            exact ⟨S3, l3, _, _, rfl, same_put hs h1n, by rw [upd_ne na1]; exact gA, by rw [upd_ne nP1]; exact gP, by rw [upd_same]; rfl, by rw [upd_ne n1]; exact g2, F3, sub3, vis3⟩
          | none =>
            refine ⟨_, rfl, _, rfl, iteF ?_⟩
            have hit := R.iter_open hz ez k j y hy
            refine ⟨_, rfl, _, rfl, _, _, rfl, rfl, _, rfl, p, _, rfl, .inl (SqL.of gP), _, _, rfl, rfl, _, rfl, ?_⟩
            have elt : decide ((j : Int) + (k : Int) < ((nV r).length : Nat)) = decide (j + k < r.length) := by
              rw [nV_len]
              exact decide_eq_decide.mpr ⟨fun h => by omega, fun h => by omega⟩
            show if decide ((j : Int) + (k : Int) < ((nV r).length : Nat)) = true then _ else _
            rw [elt]
            by_cases hlt : j + k < r.length
            · rw [decide_eq_true hlt]
              refine iteT ?_
              have hw : r[j + k]? = some (r[j + k]'hlt) := List.getElem?_eq_getElem hlt
              rw [hw] at hit
              obtain ⟨l3, e4, F3⟩ := put _ hit
              refine ⟨_, rfl, _, rfl, _, rfl, _, _, rfl, rfl, p, nV r, _, _, rfl, rfl, SqL.of gP, at_of (j := j + k) (show (j : Int) + (k : Int) = ((j + k : Nat) : Int) by omega) (nV_at hw), ?_⟩
              refine ⟨_, rfl, _, rfl, p1, _, rfl, DPut.k (k := Sum.inl (y : Int)) g1 (small1000 (by rw [List.length_map]; have := F2.len of hk; omega)), ?_⟩
              rw [e4]
              exact ⟨S3, l3, _, _, rfl, same_put hs h1n, by rw [upd_ne na1]; exact gA, by rw [upd_ne nP1]; exact gP, by rw [upd_same]; rfl, by rw [upd_ne n1]; exact g2, F3, sub3, vis3⟩
            · rw [decide_eq_false hlt]
              rw [List.getElem?_eq_none (by omega)] at hit
              refine iteF ⟨S3, l2, _, _, rfl, hs, gA, gP, g1, g2, Fd_add F2 (fun w' hw' => by rw [hit] at hw'; cases hw') (nd3 F2.ndS) m3 hyn, sub3, vis3⟩
        · rintro σ H' ⟨S2, l2, e5, e9, rfl, sA, hA, hP, hP1, hP2, F2, sub2, vis2⟩
          refine ⟨⟨nV r, SqL.of hP, by rw [nV_len]; exact Nat.le_refl _⟩, S2, l2, _, _, _, _, _, rfl, sA, hA, hP1, hP2, F2, fun j w hj hw => ?_⟩
          by_cases q : j = i
          · subst q
            rw [hx] at hw
            cases hw
            exact vis2 0 _ R.ne R.hd
          · exact sub2 w (vis j w (by omega) hw)
    · rintro σ H' ⟨S, l', e5, e6, e7, e8, e9, rfl, s8, ha8, hp1, hp2, F, vis⟩
      refine ⟨_, rfl, ?_⟩
      refine q p1 l' H' s8 hp1 (F.rep of hk fun x y hxy => ?_) F.nd
      obtain ⟨j, hj⟩ := List.getElem?_of_mem (hall x y hxy)
      exact vis j x (by rw [nV_len]; exact (List.getElem?_eq_some_iff.mp hj).1) hj
end
end CR

namespace CR
open PySem PySem.Spec PyProof.Rows L2 CM
theorem pow_zero' {n : Nat} {f : PF} : powF n f 0 = idF n := by
  refine ext fun x y => ?_
  rw [show (0 : Int) = ((0 : Nat) : Int) from rfl, pow_pos, id_iff]
  show _ ∧ some x = some y ↔ _
  constructor
  · rintro ⟨h, e⟩; exact ⟨h, (Option.some.inj e).symm⟩
  · rintro ⟨h, e⟩; exact ⟨h, by rw [e]⟩
theorem pow_flip {n : Nat} {f : PF} (o : Ok n f) (k : Nat) : powF n (invF n f) (k : Int) = powF n f (-(k : Int)) := by
  refine ext fun x y => ?_
  rw [pow_pos, pow_neg o, iter_inv o]
  constructor
  · rintro ⟨hx, h⟩
    refine ⟨hx, ?_, h⟩
    exact iter_cod o.inv k x y hx ((iter_inv o k y x).mpr h)
  · rintro ⟨hx, _, h⟩; exact ⟨hx, h⟩
section
variable {P : Program} {w : World} {K : PySem.W.Frag} {mg : Str → Option Value} {base : Heap} {A : Ad}
/-! ### power -/
def spPower (C : Addr) : Sp := fun vs H Q _ => ∃ (a : Addr) (n : Nat) (f : PF) (m : Int), vs = [.ref a, .int m] ∧ MapAt C H a n f ∧ ∀ p H', Same H H' → MapAt C H' p n (powF n f m) → Q (.ref p) H'
theorem scPower : FnScope ["self", "exponent", "arrows", "source", "target"] ["self", "exponent"] (defScope sPower) := ⟨rfl, rfl, rfl, by decide +kernel, rfl, by decide +kernel, by decide +kernel⟩
theorem ok_power (T : Txt K mg A) : Good P w K mg base 7 A.power ["self", "exponent"] (spPower A.C) := by
  refine T.powerF.d.good scPower (fun vs H Q E h => ?_) (fun cdv B outer s H vs Q E hr h => ?_)
  · obtain ⟨a, n, f, m, rfl, _⟩ := h
    rfl
  · obtain ⟨a, n, f, m, rfl, M, q⟩ := h
    have hu := hu_of hr
    have sc := scPower
    obtain ⟨dx, d, ha, hd⟩ := M.ob
    refine ⟨_, pss_cons (ps_if (pt_not (pt_val (pe_callG (ok_isInt T) (hr.mono (by decide)) (by rfl) T.isIntF.g (pa_cons (pv 1) pa_nil)))) (pss_one ps_never) pss_nil)
      (pss_cons (ps_set (i := 2) sc.nd rfl (.inl rfl) (pe_fld (pv 0) rfl))
      (pss_cons (ps_if (pt_cmpR op_lt (pv 1) pe_int (nomark _)) (pss_one (ps_lock (ps_setDc (i := 2) (own := [("source", 3), ("target", 4)]) (g := gTup K 2 (gCons (gName 3) (gCons (gName 4) gNil)))
        (tt := tYes) rfl sc.nd rfl rfl (sw_trueD rfl rfl rfl (by decide +kernel)) (pi_items (pe_fld (pv 0) rfl))
        (blkOk_by (N := ["self", "exponent", "arrows", "source", "target"]) (sc := defScope sPower) (by decide +kernel))
        (fun _ _ _ _ _ => pg_tup rfl (pgs_cons (pg_name (i := 3) sc.nd rfl (.inl rfl)) (pgs_cons (pg_name (i := 4) sc.nd rfl (.inl rfl)) pgs_nil)))
        (fun _ _ _ _ _ => pts_nil) (fun _ _ _ _ _ => pv 4)
        (fun _ _ _ _ _ => pv 3)))) pss_nil)
      (pss_cons (ps_if (pt_cmpR op_eq (pv 1) pe_int (nomark _)) (pss_one (ps_ret (pe_cmethG (pe_glob (v := .ref A.C) (by rfl) T.mgC rfl) T.cr T.identityC (ok_identity T) (hr.mono (by decide)) (pa_cons (pe_fld (pv 0) rfl) pa_nil)))) pss_nil)
      (pss_one (ps_ret (pe_makeG T.mke (ok_init T) (hr.mono (by decide)) (by rfl) T.mgC (pa_cons (pe_fld (pv 0) rfl) (pa_cons
        (pe_callG (ok_moved T) (hr.mono (by decide)) (by rfl) T.movedF.g (pa_cons (pv 2) (pa_cons (pe_callB call_abs (by rfl) T.abs boot_abs (pa_cons (pv 1) pa_nil)) pa_nil))) pa_nil)))))))), ?_⟩
    refine ⟨_, rfl, m, rfl, _, rfl, iteF ?_⟩
    refine ⟨_, rfl, a, A.C, dx, _, _, rfl, ha, T.cl, T.nA, mf_arrows _ _, _, rfl, _, _, rfl, rfl, _, rfl, ?_⟩
    show if decide (m < 0) = true then _ else _
    by_cases hm : m < 0
    · rw [decide_eq_true hm]
      refine iteT ?_
      have nad : a ≠ d := ne_of ha hd (by intro z; cases z)
      refine ⟨d, dk (arr n f), hd, True.intro, fun od => ?_⟩
      refine ⟨_, rfl, a, A.C, dx, _, _, rfl, by rw [upd_ne nad]; exact ha, T.cl, T.nA, mf_arrows _ _, d, od, (arr n f).map kp, rfl, upd_same, fun D hD => ?_⟩
      obtain ⟨hD0, nDd⟩ := lock_none hd hD
      refine dc_any (J := Iti d od ((arr n f).map kp)) ((arr n f).map kp).length (fun i H' => Same (upd H d (.frz od (dk (arr n f)))) H' ∧ H' D = some (dk (flip ((arr n f).take i)))) ⟨same_upd hD, by rw [upd_same]; rfl⟩
        (fun i H' hi ⟨s0, _⟩ => ⟨s0 _ _ upd_same, hi⟩) ?_ ?_
      · rintro i v H' H3 hi ⟨s0, hl⟩ ⟨U, k, v, hkv, rfl, hU, rfl⟩
        obtain ⟨x, y, hxy, rfl, rfl⟩ := kp_get hkv
        have nDU : D ≠ U := ne_of_none hl hU
        have s2 := same_upd' s0 hU (o := .tup [kV (Sum.inl (x : Int)), V.int (y : Int)])
        refine ⟨U, _, rfl, SqT.of upd_same, rfl, _, _, rfl, _, _, rfl, rfl, rfl, ?_⟩
        refine ⟨_, rfl, _, rfl, _, Sum.inl (y : Int), rfl, by rw [upd_ne nDU]; exact hl, small1000 ?_, same_put s2 hD, ?_⟩
        · rw [List.length_map]
          unfold flip
          rw [List.length_map, List.length_take]
          have := arr_len (f := f) M.hi
          omega
        · rw [upd_same]
          have e := put_new (l := flip ((arr n f).take i)) (x := y) x (by rw [keys_flip]; exact nodup_fresh (nodup_vals_arr M.ok) hxy)
          rw [flip_succ hxy]
          exact congrArg (fun l => some (HO.dK l)) e
      · rintro H3 ⟨s0, hl⟩
        refine ⟨⟨s0 _ _ upd_same, Nat.le_refl _⟩, s0 _ _ upd_same, ?_⟩
        rw [List.length_map, List.take_length] at hl
        have s3 := same_unlock hd s0
        have hD3 : (upd H3 d (dk (arr n f))) D = some (dk (flip (arr n f))) := by rw [upd_ne nDd]; exact hl
        generalize upd H3 d (dk (arr n f)) = H4 at s3 hD3 ⊢
        refine ⟨_, rfl, rfl, _, rfl, ?_⟩
        show if decide (V.int m = V.int 0) = true then _ else _
        rw [decide_eq_false (fun z => by cases z; exact absurd hm (by decide))]
        refine iteF ?_
        refine ⟨_, rfl, a, A.C, dx, _, _, rfl, s3 _ _ ha, T.cl, T.nS, mf_size _ _, _, rfl, _, rfl, m, rfl, ?_⟩
        rw [if_pos hm]
        obtain ⟨k, rfl⟩ : ∃ k : Nat, m = -(k : Int) := ⟨(-m).toNat, by omega⟩
        refine ⟨D, n, k, invF n f, flip (arr n f), by rw [Int.neg_neg]; rfl, hD3, rep_flip M.ok, by unfold flip; rw [List.length_map]; exact arr_len M.hi, M.ok.inv, by omega, M.hi, fun p l' H5 s5 hp rp nd => ?_⟩
        rw [pow_flip M.ok] at rp
        exact made hp rp (M.ok.pow _) M.lo M.hi nd (fun p H' s6 _ MM => q p H' ((s3.trans s5).trans s6) MM)
    · rw [decide_eq_false hm]
      refine iteF ?_
      refine ⟨_, rfl, rfl, _, rfl, ?_⟩
      show if decide (V.int m = V.int 0) = true then _ else _
      by_cases h0 : m = 0
      · subst h0
        rw [decide_eq_true rfl]
        refine iteT ?_
        refine ⟨rfl, _, rfl, a, A.C, dx, _, _, rfl, ha, T.cl, T.nS, mf_size _ _, ?_⟩
        refine ⟨n, rfl, M.lo, M.hi, fun p H' s1 MM => q p H' s1 ?_⟩
        rw [pow_zero']
        exact MM
      · rw [decide_eq_false (fun z => h0 (by cases z; rfl))]
        refine iteF ?_
        refine ⟨_, rfl, a, A.C, dx, _, _, rfl, ha, T.cl, T.nS, mf_size _ _, _, rfl, _, rfl, m, rfl, ?_⟩
        rw [if_neg hm]
        obtain ⟨k, rfl⟩ : ∃ k : Nat, m = (k : Int) := ⟨m.toNat, by omega⟩
        refine ⟨d, n, k, f, arr n f, rfl, hd, rep_arr M.ok, arr_len M.hi, M.ok, by omega, M.hi, fun p l' H5 s5 hp rp nd => ?_⟩
        exact made hp rp (M.ok.pow _) M.lo M.hi nd (fun p H' s6 _ MM => q p H' (s5.trans s6) MM)
end
end CR

namespace CR
open PySem PySem.Spec PyProof.Rows L2 CM
/-! ### the pool of numbers -/
def Pool (p : Addr) (H : Hp) : Prop := ∃ x y : Int, H p = some (.lst [.int x, .int y]) ∧ 0 ≤ x ∧ 0 ≤ y ∧ y < 2147483647
/-- all but the pool stays -/
def SameP (p : Addr) (H H' : Hp) : Prop := ∀ b o, b ≠ p → H b = some o → H' b = some o
theorem SameP.refl (p : Addr) (H : Hp) : SameP p H H := fun _ _ _ e => e
theorem SameP.trans {p : Addr} {H H' H'' : Hp} (a : SameP p H H') (b : SameP p H' H'') : SameP p H H'' := fun x o n e => b x o n (a x o n e)
theorem SameP.of {p : Addr} {H H' : Hp} (a : Same H H') : SameP p H H' := fun x o _ e => a x o e
theorem SameP.upd {p : Addr} {H : Hp} {o : HO} : SameP p H (upd H p o) := fun x u n e => by rw [upd_ne n]; exact e
theorem Pool.same {p : Addr} {H H' : Hp} (a : Pool p H) (s : Same H H') : Pool p H' :=
  let ⟨x, y, h, r⟩ := a; ⟨x, y, s _ _ h, r⟩
theorem Pool.ne {p b : Addr} {H : Hp} {o : HO} (a : Pool p H) (h : H b = some o) (n : ∀ xs, o ≠ .lst xs) : b ≠ p := fun z => by
  obtain ⟨x, y, h', _⟩ := a
  rw [z, h'] at h
  exact n _ (Option.some.inj h).symm
theorem MapAt.sameP {C p : Addr} {H H' : Hp} {a : Addr} {n : Nat} {f : PF} (m : MapAt C H a n f) (P : Pool p H) (s : SameP p H H') : MapAt C H' a n f :=
  ⟨m.ok, m.lo, m.hi, let ⟨dx, d, h1, h2⟩ := m.ob; ⟨dx, d, s _ _ (P.ne h1 (fun _ z => nomatch z)) h1, s _ _ (P.ne h2 (fun _ z => nomatch z)) h2⟩⟩
theorem MapAt.nep {C p : Addr} {H : Hp} {a : Addr} {n : Nat} {f : PF} (m : MapAt C H a n f) (P : Pool p H) : a ≠ p :=
  let ⟨_, _, h1, _⟩ := m.ob; P.ne h1 (fun _ z => nomatch z)
theorem first_int {xs : List V} (h : ∀ v ∈ xs, ∃ c : Int, v = .int c) : ∃ c : Int, atI (xs ++ [.int 0]) 0 = some (.int c) := by
  cases xs with
  | nil => exact ⟨0, rfl⟩
  | cons a r =>
    obtain ⟨c, rfl⟩ := h a List.mem_cons_self
    exact ⟨c, atI_nat (j := 0) rfl⟩
section
variable {P : Program} {w : World} {K : PySem.W.Frag} {mg : Str → Option Value} {base : Heap} {A : Ad}
/-! ### _law_hand -/
def spHand (K : PySem.W.Frag) : Sp := fun vs H Q _ => ∃ (a : Addr) (ns : List Int) (k : Nat), vs = [.ref a, .int (k : Int)] ∧ SqL K H a (ns.map V.int) ∧ ns.length ≤ 63 ∧ k < 1000 ∧
  ∀ p H', Same H H' → H p = none → Pool p H' → Q (.ref p) H'
theorem scHand : FnScope ["_law_script", "_law_k", "_law_cell", "_law_seed"] ["_law_script", "_law_k"] (defScope sHand) := ⟨rfl, rfl, rfl, by decide +kernel, rfl, by decide +kernel, by decide +kernel⟩
theorem ok_hand (T : Txt K mg A) : Good P w K mg base 1 A.hand ["_law_script", "_law_k"] (spHand K) := by
  refine T.handF.d.good scHand (fun vs H Q E h => ?_) (fun cdv B outer s H vs Q E hr h => ?_)
  · obtain ⟨a, ns, k, rfl, _⟩ := h
    rfl
  · obtain ⟨a, ns, k, rfl, hS, hlen, hk, q⟩ := h
    have sc := scHand
    refine ⟨_, pss_cons (ps_set (i := 2) sc.nd rfl (.inl rfl) (pe_ix ix_list (pe_op op_cat (pe_slice sl_list (pv 0) (po_some (pv 1)) (po_some (pe_op op_add (pv 1) pe_int))) (pe_lst (pa_cons pe_int pa_nil))) pe_int (fun _ _ => rfl)))
      (pss_cons (ps_set (i := 3) sc.nd rfl (.inl rfl) (pe_op op_mod (pe_op op_mul (pe_op op_add (pe_op op_add (pe_op op_mod (pv 2) pe_int) (pe_op op_mul pe_int (pv 1))) pe_int) pe_int) pe_int))
      (pss_one (ps_ret (pe_lst (pa_cons (pe_op op_mul (pe_callTy call_int1 (by rfl) T.int boot_int (pa_cons (pe_cmpR op_ge (pv 2) (pe_op op_pow pe_int pe_int) (nomark _)) pa_nil)) (pv 2)) (pa_cons (pv 3) pa_nil)))))), ?_⟩
    refine ⟨_, rfl, _, rfl, _, rfl, _, rfl, _, _, rfl, rfl, _, rfl, a, _, rfl, hS, fun p1 h1 => ?_⟩
    refine ⟨le_line (by decide), fun p2 h2 => ?_⟩
    have n12 : p1 ≠ p2 := fun z => by rw [← z, upd_same] at h2; cases h2
    refine ⟨p1, p2, _, _, rfl, rfl, by rw [upd_ne n12, upd_same], upd_same, le_line ?_, fun p3 h3 => ?_⟩
    · have := cutV_length (ns.map V.int) (some (k : Int)) (some ((k : Int) + 1))
      rw [List.length_map] at this
      simp only [List.length_singleton]
      omega
    have s2 := same_upd' (same_upd' (same_upd h1 (o := .lst (cutV (ns.map V.int) (some (k : Int)) (some ((k : Int) + 1))))) h2 (o := .lst [.int 0])) h3 (o := .lst (cutV (ns.map V.int) (some (k : Int)) (some ((k : Int) + 1)) ++ [.int 0]))
    obtain ⟨c, hc⟩ := first_int (xs := cutV (ns.map V.int) (some (k : Int)) (some ((k : Int) + 1))) (fun v hv => by
      have := List.mem_of_mem_drop (List.mem_of_mem_take hv)
      obtain ⟨c, _, e⟩ := List.mem_map.mp this
      exact ⟨c, e.symm⟩)
    refine ⟨p3, _, 0, _, rfl, rfl, SqL.of upd_same, hc, ?_⟩
    generalize upd (upd (upd H p1 _) p2 _) p3 _ = H3 at s2 ⊢
    have m1 := Int.emod_nonneg c (b := 2147483647) (by decide)
    have m2 := Int.emod_lt_of_pos c (b := 2147483647) (by decide)
    refine ⟨_, rfl, _, _, rfl, rfl, (by show (0 : Int) < 2147483647; decide), _, rfl, _, _, rfl, rfl, .inl ⟨by decide, by decide⟩, _, _, rfl, rfl, _, _, rfl, rfl, _, _, rfl, rfl, .inr ⟨by decide, by decide⟩, _, _, rfl, rfl, (by show (0 : Int) < 2147483629; decide), ?_⟩
    refine ⟨_, rfl, _, _, rfl, rfl, ⟨by decide, by decide, by decide⟩, _, _, rfl, rfl, .inr ⟨_, rfl, ?_⟩⟩
    refine ⟨_, rfl, _, _, rfl, rfl, .inl ?_, _, rfl, le_line (by show 2 ≤ 1000; decide), fun p4 h4 => ?_⟩
    · split <;> exact ⟨by decide, by decide⟩
    refine q p4 _ (same_upd' s2 h4) (s2.free h4) ⟨_, _, upd_same, ?_, Int.emod_nonneg _ (by decide), ?_⟩
    · by_cases hc2 : (10 : Int) ^ (18 : Int).toNat ≤ c
      · rw [decide_eq_true hc2, if_pos rfl, Int.one_mul]
        exact Int.le_trans (by decide) hc2
      · rw [decide_eq_false hc2, if_neg (by decide), Int.zero_mul]
        exact Int.le_refl _
    · exact Int.lt_trans (Int.emod_lt_of_pos _ (by decide)) (by decide)
/-! ### _law_draw -/
def spDraw : Sp := fun vs H Q _ => ∃ (p : Addr) (n : Int), vs = [.ref p, .int n] ∧ Pool p H ∧ 0 < n ∧ n < 1000000 ∧
  ∀ (r : Int) H', SameP p H H' → (∀ b, b ≠ p → H' b = H b) → Pool p H' → 0 ≤ r → r < n → Q (.int r) H'
theorem scDraw : FnScope ["_law_pool", "_law_size", "_law_found"] ["_law_pool", "_law_size"] (defScope sDraw) := ⟨rfl, rfl, rfl, by decide +kernel, rfl, by decide +kernel, by decide +kernel⟩
theorem ok_draw (T : Txt K mg A) : Good P w K mg base 1 A.draw ["_law_pool", "_law_size"] spDraw := by
  refine T.drawF.d.good scDraw (fun vs H Q E h => ?_) (fun cdv B outer s H vs Q E hr h => ?_)
  · obtain ⟨p, n, rfl, _⟩ := h
    rfl
  · obtain ⟨p, n, rfl, ⟨x, y, hp, hx, hy, hy2⟩, h0, h1, q⟩ := h
    have sc := scDraw
    refine ⟨_, pss_cons (ps_if (pt_cmpR op_gt (pe_ix ix_list (pv 0) pe_int (fun _ _ => rfl)) pe_int (nomark _))
        (pss_cons (ps_set (i := 2) sc.nd rfl (.inl rfl) (pe_op op_mod (pe_ix ix_list (pv 0) pe_int (fun _ _ => rfl)) (pv 1)))
        (pss_cons (ps_asg (pe_op op_fdiv (pe_ix ix_list (pv 0) pe_int (fun _ _ => rfl)) (pv 1)) (pg_sub (pv 0) pe_int set_list))
        (pss_one (ps_ret (pv 2))))) pss_nil)
      (pss_cons (ps_asg (pe_op op_mod (pe_op op_add (pe_op op_mul (pe_ix ix_list (pv 0) pe_int (fun _ _ => rfl)) pe_int) pe_int) pe_int) (pg_sub (pv 0) pe_int set_list))
      (pss_one (ps_ret (pe_op op_mod (pe_op op_fdiv (pe_op op_mod (pe_op op_mul (pe_ix ix_list (pv 0) pe_int (fun _ _ => rfl)) (pe_ix ix_list (pv 0) pe_int (fun _ _ => rfl))) pe_int) pe_int) (pv 1))))), ?_⟩
    have a0 : ∀ u v : Int, atI [V.int u, V.int v] 0 = some (V.int u) := fun u v => atI_nat (j := 0) rfl
    have a1 : ∀ u v : Int, atI [V.int u, V.int v] 1 = some (V.int v) := fun u v => atI_nat (j := 1) rfl
    have i0 : ∀ u v : Int, ixN [V.int u, V.int v].length 0 = some 0 := fun u v => rfl
    have i1 : ∀ u v : Int, ixN [V.int u, V.int v].length 1 = some 1 := fun u v => rfl
    refine ⟨_, rfl, p, _, 0, _, rfl, rfl, SqL.of hp, a0 x y, _, _, rfl, rfl, _, rfl, ?_⟩
    show if decide (0 < x) = true then _ else _
    by_cases hx0 : 0 < x
    · rw [decide_eq_true hx0]
      refine iteT ?_
      refine ⟨_, rfl, p, _, 0, _, rfl, rfl, SqL.of hp, a0 x y, _, rfl, _, _, rfl, rfl, h0, ?_⟩
      refine ⟨_, rfl, p, _, 0, _, rfl, rfl, SqL.of hp, a0 x y, _, rfl, _, _, rfl, rfl, ⟨h0, by omega⟩, _, rfl, p, _, 0, _, rfl, rfl, hp, i0 x y, _, rfl, ?_⟩
      exact q _ _ SameP.upd (fun b hb => upd_ne hb) ⟨_, _, upd_same, Int.ediv_nonneg hx (Int.le_of_lt h0), hy, hy2⟩ (Int.emod_nonneg _ (by omega)) (Int.emod_lt_of_pos _ h0)
    · rw [decide_eq_false hx0]
      refine iteF ?_
      refine ⟨_, rfl, p, _, 1, _, rfl, rfl, SqL.of hp, a1 x y, _, _, rfl, rfl, .inr ⟨by decide, by decide⟩, _, _, rfl, rfl, _, _, rfl, rfl, (by show (0 : Int) < 2147483647; decide), _, rfl, p, _, 1, _, rfl, rfl, hp, i1 x y, ?_⟩
      have z1 := Int.emod_nonneg (y * 48271 + 11) (b := 2147483647) (by decide)
      have z2 := Int.emod_lt_of_pos (y * 48271 + 11) (b := 2147483647) (by decide)
      have hp2 : (upd H p (HO.lst ([V.int x, V.int y].set 1 ((fun i j => V.int (i % j)) (y * 48271 + 11) 2147483647)))) p = some (.lst [V.int x, V.int ((y * 48271 + 11) % 2147483647)]) := upd_same
      refine ⟨_, rfl, p, _, 1, _, rfl, rfl, SqL.of hp2, a1 x _, _, rfl, p, _, 1, _, rfl, rfl, SqL.of hp2, a1 x _, _, _, rfl, rfl, .inl ⟨by omega, by omega⟩, _, _, rfl, rfl, (by show (0 : Int) < 2147483629; decide), _, _, rfl, rfl, ⟨by decide, by decide⟩, _, rfl, _, _, rfl, rfl, h0, ?_⟩
      exact q _ _ SameP.upd (fun b hb => upd_ne hb) ⟨_, _, upd_same, hx, z1, z2⟩ (Int.emod_nonneg _ (by omega)) (Int.emod_lt_of_pos _ h0)
end
end CR

namespace CR
open PySem PySem.Spec PyProof.Rows L2 CM
/-! ### drawn arrows -/
def look : List (Nat × Nat) → PF
  | [] => fun _ => none
  | (a, b) :: r => fun x => if a = x then some b else look r x
theorem look_none : ∀ (l : List (Nat × Nat)) (x : Nat), x ∉ l.map (·.1) → look l x = none
  | [], _, _ => rfl
  | (a, b) :: r, x, h => by
    show (if a = x then some b else look r x) = none
    rw [List.map_cons, List.mem_cons] at h
    rw [if_neg (fun z => h (.inl z.symm))]
    exact look_none r x fun z => h (.inr z)
theorem look_rep : ∀ (l : List (Nat × Nat)), (l.map (·.1)).Nodup → Rep l (look l)
  | [], _ => fun x y => ⟨fun h => (nomatch h), fun h => (nomatch h)⟩
  | (a, b) :: r, nd => fun x y => by
    rw [List.map_cons, List.nodup_cons] at nd
    show _ ↔ (if a = x then some b else look r x) = some y
    by_cases e : a = x
    · subst e
      rw [if_pos rfl, List.mem_cons]
      constructor
      · rintro (h | h)
        · cases h; rfl
        · exact absurd (List.mem_map.mpr ⟨_, h, rfl⟩) nd.1
      · intro h; exact .inl (by rw [Option.some.inj h])
    · rw [if_neg e, ← look_rep r nd.2, List.mem_cons]
      constructor
      · rintro (h | h)
        · cases h; exact absurd rfl e
        · exact h
      · exact .inr
structure Lf (n i : Nat) (left : List Nat) (l : List (Nat × Nat)) : Prop where
  nd : left.Nodup
  lt : ∀ x ∈ left, x < n
  len : n ≤ left.length + i
  top : left.length ≤ n
  ks : ∀ p ∈ l, p.1 < i
  kn : (l.map (·.1)).Nodup
  vs : ∀ p ∈ l, p.2 < n ∧ p.2 ∉ left
  vn : (l.map (·.2)).Nodup
theorem Lf.zero (n : Nat) : Lf n 0 (List.range n) [] := ⟨List.nodup_range, fun x h => List.mem_range.mp h, by rw [List.length_range]; exact Nat.le_refl _, by rw [List.length_range]; exact Nat.le_refl _, fun p h => (nomatch h), by simp, fun p h => (nomatch h), by simp⟩
theorem Lf.skip {n i : Nat} {left : List Nat} {l : List (Nat × Nat)} (F : Lf n i left l) : Lf n (i + 1) left l :=
  ⟨F.nd, F.lt, by have := F.len; omega, F.top, fun p h => Nat.lt_succ_of_lt (F.ks p h), F.kn, F.vs, F.vn⟩
theorem nd_erase {left : List Nat} (nd : left.Nodup) {j y : Nat} (h : left[j]? = some y) : y ∉ left.eraseIdx j := fun m => by
  obtain ⟨i, hi, e⟩ := List.mem_eraseIdx_iff_getElem?.mp m
  exact hi (nd_at nd e h)
theorem Lf.put {n i : Nat} {left : List Nat} {l : List (Nat × Nat)} (F : Lf n i left l) {j y : Nat} (h : left[j]? = some y) : Lf n (i + 1) (left.eraseIdx j) (l ++ [(i, y)]) where
  nd := List.Nodup.sublist (List.eraseIdx_sublist ..) F.nd
  lt := fun x hx => F.lt x (List.mem_of_mem_eraseIdx hx)
  len := by
    have hj := (List.getElem?_eq_some_iff.mp h).1
    rw [List.length_eraseIdx, if_pos hj]
    have := F.len
    omega
  top := by
    have := F.top
    rw [List.length_eraseIdx]
    split <;> omega
  ks := fun p hp => by
    rcases List.mem_append.mp hp with q | q
    · exact Nat.lt_succ_of_lt (F.ks p q)
    · rw [List.mem_singleton.mp q]; exact Nat.lt_succ_self _
  kn := by
    rw [List.map_append]
    refine nd_snoc F.kn fun m => ?_
    obtain ⟨p, hp, e⟩ := List.mem_map.mp m
    have e : p.1 = i := e
    have := F.ks p hp
    omega
  vs := fun p hp => by
    rcases List.mem_append.mp hp with q | q
    · exact ⟨(F.vs p q).1, fun m => (F.vs p q).2 (List.mem_of_mem_eraseIdx m)⟩
    · rw [List.mem_singleton.mp q]; exact ⟨F.lt y (List.mem_of_getElem? h), nd_erase F.nd h⟩
  vn := by
    rw [List.map_append]
    refine nd_snoc F.vn fun m => ?_
    obtain ⟨p, hp, e⟩ := List.mem_map.mp m
    have e : p.2 = y := e
    exact (F.vs p hp).2 (by rw [e]; exact List.mem_of_getElem? h)
theorem nd_key {α : Type} {l : List α} {g : α → Nat} (nd : (l.map g).Nodup) {p q : α} (hp : p ∈ l) (hq : q ∈ l) (e : g p = g q) : p = q := by
  induction l with
  | nil => cases hp
  | cons a r ih =>
    rw [List.map_cons, List.nodup_cons] at nd
    rcases List.mem_cons.mp hp with h | h <;> rcases List.mem_cons.mp hq with h' | h'
    · rw [h, h']
    · exact absurd (List.mem_map.mpr ⟨q, h', by rw [← e, h]⟩) nd.1
    · exact absurd (List.mem_map.mpr ⟨p, h, by rw [e, h']⟩) nd.1
    · exact ih nd.2 h h'
theorem Lf.ok {n : Nat} {left : List Nat} {l : List (Nat × Nat)} (F : Lf n n left l) : Ok n (look l) := by
  have r := look_rep l F.kn
  refine ⟨fun x y h => F.ks _ ((r x y).mpr h), fun x y h => (F.vs _ ((r x y).mpr h)).1, fun x y z h h' => ?_⟩
  exact congrArg Prod.fst (nd_key F.vn ((r x z).mpr h) ((r y z).mpr h') rfl)
theorem Lf.size {n i : Nat} {left : List Nat} {l : List (Nat × Nat)} (F : Lf n i left l) : l.length ≤ n := by
  rw [← List.length_map (f := (·.2))]
  refine pigeon n _ F.vn fun a ha => ?_
  obtain ⟨p, hp, rfl⟩ := List.mem_map.mp ha
  exact (F.vs p hp).1
theorem map_er {α β : Type} (f : α → β) : ∀ (l : List α) (j : Nat), (l.map f).eraseIdx j = (l.eraseIdx j).map f
  | [], _ => rfl
  | a :: r, 0 => rfl
  | a :: r, j + 1 => by rw [List.map_cons, List.eraseIdx_cons_succ, List.eraseIdx_cons_succ, List.map_cons, map_er f r j]
theorem rg_nV (n : Nat) : rgV 0 (n : Int) = nV (List.range n) := by
  unfold rgV nV
  rw [Int.sub_zero, Int.toNat_natCast]
  refine List.map_congr_left fun x _ => ?_
  rw [Int.zero_add]
section
variable {P : Program} {w : World} {K : PySem.W.Frag} {mg : Str → Option Value} {base : Heap} {A : Ad}
/-! ### _law_arrows -/
def spArrowsL : Sp := fun vs H Q _ => ∃ (p : Addr) (n : Nat) (m : Int), vs = [.ref p, .int (n : Int), .int m] ∧ Pool p H ∧ n ≤ 300 ∧
  ∀ (q : Addr) (l : List (Nat × Nat)) (f : PF) H', SameP p H H' → Pool p H' → H' q = some (dk l) → Rep l f → Ok n f → (l.map (·.1)).Nodup → Q (.ref q) H'
theorem scArrowsL : FnScope ["_law_pool", "_law_size", "_law_way", "_law_left", "_law_found", "_law_source"] ["_law_pool", "_law_size", "_law_way"] (defScope sLawArrows) := ⟨rfl, rfl, rfl, by decide +kernel, rfl, by decide +kernel, by decide +kernel⟩
theorem ok_arrowsL (T : Txt K mg A) : Good P w K mg base 2 A.lawArrows ["_law_pool", "_law_size", "_law_way"] spArrowsL := by
  refine T.lawArrowsF.d.good scArrowsL (fun vs H Q E h => ?_) (fun cdv B outer s H vs Q E hr h => ?_)
  · obtain ⟨p, n, m, rfl, _⟩ := h
    rfl
  · obtain ⟨p, n, m, rfl, hp, hn, q⟩ := h
    have hu := hu_of hr
    have sc := scArrowsL
    refine ⟨_, pss_cons (ps_par (i := 3) (j := 4) rfl sc.nd rfl rfl (by decide) rfl rfl (pa_cons (pe_listRg rfl (by rfl) T.list (prg_1 (by rfl) T.range (pv 1))) (pa_cons pe_dnewK pa_nil)) rfl)
      (pss_cons (ps_for PassesOwn.never rfl (pi_range1 (by rfl) T.range (pa_cons (pv 1) pa_nil)) (pg_name (i := 5) sc.nd rfl (.inl rfl))
        (pss_one (ps_if (pt_cmpR op_lt (pe_callG (ok_draw T) hr (by rfl) T.drawF.g (pa_cons (pv 0) (pa_cons pe_int pa_nil))) (pv 2) (nomark _))
          (pss_one (ps_dput hu (pv 4) (pv 5) (pe_bm PySem.F.plainAttrs_list PySem.F.slot_list_pop PySem.F.type_list_pop mt_popAt (pv 3)
            (pa_cons (pe_callG (ok_draw T) hr (by rfl) T.drawF.g (pa_cons (pv 0) (pa_cons (pe_callB call_len_seq (by rfl) T.len PySem.boot_len (pa_cons (pv 3) pa_nil)) pa_nil))) pa_nil)) rfl)) pss_nil)))
      (pss_one (ps_ret (pv 4)))), ?_⟩
    have RO : RgOk 0 (n : Int) := RgOk.of_le (Int.le_refl _) (by omega) (by decide) (by omega)
    refine ⟨_, rfl, _, rfl, RO, fun L hL => ?_⟩
    rw [rg_nV]
    intro D hD
    refine ⟨_, _, rfl, ?_⟩
    have nLD : L ≠ D := fun z => by rw [← z, upd_same] at hD; cases hD
    have nLp : L ≠ p := fun z => by obtain ⟨_, _, h, _⟩ := hp; rw [z, h] at hL; cases hL
    have s2 : Same H (upd (upd H L (.lst (nV (List.range n)))) D (.dK [])) := same_upd' (same_upd hL) hD
    have hp2 := hp.same s2
    have hL2 : (upd (upd H L (.lst (nV (List.range n)))) D (.dK [])) L = some (.lst (nV (List.range n))) := by rw [upd_ne nLD, upd_same]
    have hD2 : (upd (upd H L (.lst (nV (List.range n)))) D (.dK [])) D = some (dk []) := upd_same
    have nDp : D ≠ p := hp2.ne hD2 (fun _ z => nomatch z)
    have hD0 : H D = none := by rw [upd_ne nLD.symm] at hD; exact hD
    generalize upd (upd H L (.lst (nV (List.range n)))) D (.dK []) = H2 at s2 hp2 hL2 hD2 ⊢
    refine ⟨_, rfl, (n : Int), rfl, by omega, by omega, ?_⟩
    rw [Int.toNat_natCast]
    refine for_any (J := Itr 0 n) n (fun i σ H' => ∃ (left : List Nat) (l : List (Nat × Nat)) (e : Option V),
        σ = [some (.ref p), some (.int (n : Int)), some (.int m), some (.ref L), some (.ref D), e] ∧ SameP p H H' ∧ Pool p H' ∧ H' L = some (.lst (nV left)) ∧ H' D = some (dk l) ∧ Lf n i left l)
      ⟨_, [], none, rfl, SameP.of s2, hp2, hL2, hD2, Lf.zero n⟩ (fun i σ H' hi _ => hi) ?_ ?_
    · rintro i σ H' x H3 hi ⟨left, l, e, rfl, s3, hp3, hL3, hD3, F⟩ ⟨rfl, rfl⟩
      rw [Int.zero_add]
      refine ⟨_, rfl, p, 4, rfl, hp3, by decide, by decide, fun r H4 s4 f4 hp4 r0 r4 => ?_⟩
      refine ⟨_, rfl, _, _, rfl, rfl, _, rfl, ?_⟩
      have hL4 : H4 L = some (.lst (nV left)) := by rw [f4 L nLp]; exact hL3
      have hD4 : H4 D = some (dk l) := by rw [f4 D nDp]; exact hD3
      show if decide (r < m) = true then _ else _
      by_cases hrm : r < m
      · rw [decide_eq_true hrm]
        refine iteT ?_
        have hlen : 0 < left.length := by have := F.len; omega
        refine ⟨_, rfl, .inl ⟨rfl, _, SqL.of hL4⟩, _, rfl, _, rfl, L, _, rfl, .inl (SqL.of hL4), p, _, rfl, hp4, ?_, ?_, fun t H5 s5 f5 hp5 t0 t1 => ?_⟩
        · rw [nV_len]; omega
        · rw [nV_len]; have := F.top; omega
        have hL5 : H5 L = some (.lst (nV left)) := by rw [f5 L nLp]; exact hL4
        have hD5 : H5 D = some (dk l) := by rw [f5 D nDp]; exact hD4
        rw [nV_len] at t1
        obtain ⟨j, rfl⟩ : ∃ j : Nat, t = (j : Int) := ⟨t.toNat, by omega⟩
        have hj : j < left.length := by omega
        have hy : left[j]? = some left[j] := List.getElem?_eq_getElem hj
        have hsz := F.top
        refine ⟨L, _, _, j, _, rfl, rfl, hL5, by omega, by omega, ?_, nV_at hy, ?_⟩
        · rw [nV_len, seqIndex_of (by omega) (by omega), Int.toNat_natCast]
        have e1 : (nV left).eraseIdx j = nV (left.eraseIdx j) := by unfold nV; rw [map_er]
        rw [e1]
        have hD6 : (upd H5 L (.lst (nV (left.eraseIdx j)))) D = some (dk l) := by rw [upd_ne nLD.symm]; exact hD5
        refine ⟨_, rfl, _, rfl, D, _, rfl, DPut.k (k := Sum.inl (i : Int)) hD6 (small1000 (by rw [List.length_map]; have := F.size; omega)), ?_⟩
        have e2 := put_new (l := l) (x := i) left[j] (fun h => by
          obtain ⟨u, hu, e⟩ := List.mem_map.mp h
          have e : u.1 = i := e
          have := F.ks u hu
          omega)
        refine ⟨_, _, _, rfl, ?_, ?_, ?_, ?_, F.put hy⟩
        · intro b o hb h
          have h1 := s3.trans (s4.trans s5) b o hb h
          have n1 : b ≠ L := fun z => by rw [z, hL] at h; cases h
          have n2 : b ≠ D := fun z => by rw [z, hD0] at h; cases h
          rw [upd_ne n2, upd_ne n1]
          exact h1
        · obtain ⟨x, y, h, z⟩ := hp5
          exact ⟨x, y, by rw [upd_ne nDp.symm, upd_ne nLp.symm]; exact h, z⟩
        · rw [upd_ne nLD, upd_same]
        · rw [upd_same]
          exact congrArg (fun l => some (HO.dK l)) e2
      · rw [decide_eq_false hrm]
        exact iteF ⟨left, l, _, rfl, s3.trans s4, hp4, hL4, hD4, F.skip⟩
    · rintro σ H' ⟨left, l, e, rfl, s3, hp3, hL3, hD3, F⟩
      exact ⟨Nat.le_refl _, _, rfl, q D l (look l) H' s3 hp3 hD3 (look_rep l F.kn) F.ok F.kn⟩
end
end CR

namespace CR
open PySem PySem.Spec PyProof.Rows L2 CM
/-! ### what an expression comes to -/
/-- a map -/
def EvM (C : Addr) (t : TE) (σ : L2.St) (H : Hp) (n : Nat) (f : PF) : Prop := ∀ H1, Same H H1 → ∀ Q : VK, (∀ p H', Same H1 H' → MapAt C H' p n f → Q (.ref p) H') → t σ H1 Q
/-- an int -/
def EvI (t : TE) (σ : L2.St) (H : Hp) (m : Int) : Prop := ∀ H1, Same H H1 → ∀ Q : VK, (∀ H', Same H1 H' → Q (.int m) H') → t σ H1 Q
/-- a bool -/
def EvB (t : TE) (σ : L2.St) (H : Hp) (p : Prop) : Prop := ∀ H1, Same H H1 → ∀ Q : VK, (∀ (b : Bool) H', Same H1 H' → (b = true ↔ p) → Q (.bl b) H') → t σ H1 Q
/-- a test -/
def EvT (t : TT) (σ : L2.St) (H : Hp) (p : Prop) : Prop := ∀ H1, Same H H1 → ∀ Q : Bool → Hp → Prop, (∀ (b : Bool) H', Same H1 H' → (b = true ↔ p) → Q b H') → t σ H1 Q
section
variable {C : Addr} {K : PySem.W.Frag} {σ : L2.St} {H : Hp} {n : Nat} {f g : PF} {p r : Prop} {ta tb : TE} {t u : TT} {m : Int}
theorem EvM.mono {H' : Hp} (a : EvM C ta σ H n f) (s : Same H H') : EvM C ta σ H' n f := fun H1 s1 Q q => a H1 (s.trans s1) Q q
theorem evM_var {i : Nat} {a : Addr} (h : σ[i]? = some (some (.ref a))) (M : MapAt C H a n f) : EvM C (tVar i) σ H n f := fun H1 s Q q => ⟨_, h, q a H1 (Same.refl H1) (M.same s)⟩
theorem evM_bin {pre : PF → PF → Prop} {op : PF → PF → PF} (a : EvM C ta σ H n f) (b : EvM C tb σ H n g) (h : pre f g) : EvM C (tOp (rOwn2 C (spBin C pre op) E0) ta tb) σ H n (op f g) := fun H1 s1 Q q =>
  a H1 s1 _ fun x H2 s2 M => b H2 (s1.trans s2) _ fun y H3 s3 N => by
    have M := M.same s3
    obtain ⟨dx, d, h1, _⟩ := M.ob
    obtain ⟨dy, e, h2, _⟩ := N.ob
    exact ⟨x, dx, _, y, dy, _, rfl, rfl, h1, h2, x, y, n, f, g, rfl, M, N, h, fun z H' s4 Z => q z H' ((s2.trans s3).trans s4) Z⟩
theorem evM_inv (a : EvM C ta σ H n f) : EvM C (tUn (rInv1 C (spInv C) E0) ta) σ H n (invF n f) := fun H1 s1 Q q =>
  a H1 s1 _ fun x H2 s2 M => by
    obtain ⟨dx, d, h1, _⟩ := M.ob
    exact ⟨x, dx, _, rfl, h1, x, n, f, rfl, M, fun z H' s4 Z => q z H' (s2.trans s4) Z⟩
theorem no_power (n : Nat) (d : Addr) : (mf n d).lookup ("power" : Str) = none := mf_no _ _ (by decide +kernel) (by decide +kernel)
theorem evM_pow {ti : TE} (a : EvM C ta σ H n f) (b : EvI ti σ H m) : EvM C (tMeth C "power" (spPower C) [] E0 ta (tCons ti tNil)) σ H n (powF n f m) := fun H1 s1 Q q =>
  a H1 s1 _ fun x H2 s2 M => by
    obtain ⟨dx, d, h1, _⟩ := M.ob
    refine ⟨x, dx, _, rfl, h1, no_power _ _, b H2 (s1.trans s2) _ fun H3 s3 => ?_⟩
    exact ⟨x, n, f, m, rfl, M.same s3, fun z H' s4 Z => q z H' ((s2.trans s3).trans s4) Z⟩
theorem evM_cls {ti : TE} {res : Nat → PF} (b : EvI ti σ H (n : Int)) (h1 : 1 ≤ n) (h2 : n ≤ 300) : EvM C (ClX.tCMeth C (spCls C res) E0 (tC (.ref C)) (tCons ti tNil)) σ H n (res n) := fun H1 s1 Q q =>
  ⟨rfl, b H1 s1 _ fun H3 s3 => ⟨n, rfl, h1, h2, fun z H' s4 Z => q z H' (s3.trans s4) Z⟩⟩
theorem evI_size (a : EvM C ta σ H n f) : EvI (tProp C (spSize C) [] E0 ta) σ H (n : Int) := fun H1 s1 Q q =>
  a H1 s1 _ fun x H2 s2 M => by
    obtain ⟨dx, d, h1, _⟩ := M.ob
    exact ⟨x, dx, _, rfl, h1, x, n, f, rfl, M, q H2 s2⟩
theorem evI_var {i : Nat} (h : σ[i]? = some (some (.int m))) : EvI (tVar i) σ H m := fun H1 s Q q => ⟨_, h, q H1 (Same.refl H1)⟩
theorem evI_neg (a : EvI ta σ H m) : EvI (tUn (rU fun i => .int (-i)) ta) σ H (-m) := fun H1 s1 Q q => a H1 s1 _ fun H2 s2 => ⟨m, rfl, q H2 s2⟩
theorem evI_add {k : Int} (a : EvI ta σ H m) (b : EvI tb σ H k) : EvI (tOp (rI0 fun i j => .int (i + j)) ta tb) σ H (m + k) := fun H1 s1 Q q => a H1 s1 _ fun H2 s2 => b H2 (s1.trans s2) _ fun H3 s3 => ⟨m, k, rfl, rfl, q H3 (s2.trans s3)⟩
theorem evI_sub {k : Int} (a : EvI ta σ H m) (b : EvI tb σ H k) : EvI (tOp (rI0 fun i j => .int (i - j)) ta tb) σ H (m - k) := fun H1 s1 Q q => a H1 s1 _ fun H2 s2 => b H2 (s1.trans s2) _ fun H3 s3 => ⟨m, k, rfl, rfl, q H3 (s2.trans s3)⟩
theorem evI_mul {k : Int} (a : EvI ta σ H m) (b : EvI tb σ H k) (h : CMul m k) : EvI (tOp (rI CMul fun i j => .int (i * j)) ta tb) σ H (m * k) := fun H1 s1 Q q => a H1 s1 _ fun H2 s2 => b H2 (s1.trans s2) _ fun H3 s3 => ⟨m, k, rfl, rfl, h, q H3 (s2.trans s3)⟩
theorem evB_cmp {pre res : Nat → PF → PF → Prop} (a : EvM C ta σ H n f) (b : EvM C tb σ H n g) (h : pre n f g) : EvB (tOp (rOwn2 C (spCmp C pre res) E0) ta tb) σ H (res n f g) := fun H1 s1 Q q =>
  a H1 s1 _ fun x H2 s2 M => b H2 (s1.trans s2) _ fun y H3 s3 N => by
    have M := M.same s3
    obtain ⟨dx, d, h1, _⟩ := M.ob
    obtain ⟨dy, e, h2, _⟩ := N.ob
    exact ⟨x, dx, _, y, dy, _, rfl, rfl, h1, h2, x, y, n, f, g, rfl, M, N, h, fun z H' s4 Z => q z H' ((s2.trans s3).trans s4) Z⟩
theorem evB_ne {pre res : Nat → PF → PF → Prop} (a : EvM C ta σ H n f) (b : EvM C tb σ H n g) (h : pre n f g) : EvB (tOp (rNeOwn C (spCmp C pre res) E0) ta tb) σ H (¬ res n f g) := fun H1 s1 Q q =>
  a H1 s1 _ fun x H2 s2 M => b H2 (s1.trans s2) _ fun y H3 s3 N => by
    have M := M.same s3
    obtain ⟨dx, d, h1, _⟩ := M.ob
    obtain ⟨dy, e, h2, _⟩ := N.ob
    refine ⟨x, dx, _, y, dy, _, rfl, rfl, h1, h2, x, y, n, f, g, rfl, M, N, h, fun z H' s4 Z => ⟨z, rfl, q _ H' ((s2.trans s3).trans s4) ?_⟩⟩
    rw [← Z]
    cases z <;> simp
theorem evB_eqB (a : EvB ta σ H p) (b : EvB tb σ H r) : EvB (tOp rEq ta tb) σ H (p ↔ r) := fun H1 s1 Q q =>
  a H1 s1 _ fun x H2 s2 M => b H2 (s1.trans s2) _ fun y H3 s3 N => ⟨rfl, q _ H3 (s2.trans s3) (by
    rw [← M, ← N]
    cases x <;> cases y <;> decide)⟩
theorem evB_neB (a : EvB ta σ H p) (b : EvB tb σ H r) : EvB (tOp rNe ta tb) σ H (¬ (p ↔ r)) := fun H1 s1 Q q =>
  a H1 s1 _ fun x H2 s2 M => b H2 (s1.trans s2) _ fun y H3 s3 N => ⟨rfl, q _ H3 (s2.trans s3) (by
    rw [← M, ← N]
    cases x <;> cases y <;> decide)⟩
theorem evB_and (a : EvB ta σ H p) (b : EvB tb σ H r) : EvB (tAndV ta tb) σ H (p ∧ r) := fun H1 s1 Q q =>
  a H1 s1 _ fun x H2 s2 M => ⟨x, rfl, by
    cases x with
    | true => exact iteT (b H2 (s1.trans s2) _ fun y H3 s3 N => q _ H3 (s2.trans s3) (by rw [N]; simp [M.mp rfl]))
    | false => exact iteF (q _ H2 s2 (by rw [← M]; simp))⟩
theorem evB_not (a : EvB ta σ H p) : EvB (tNotV ta) σ H (¬ p) := fun H1 s1 Q q =>
  a H1 s1 _ fun x H2 s2 M => ⟨x, rfl, q _ H2 s2 (by rw [← M]; cases x <;> simp)⟩
theorem evT_B (a : EvB ta σ H p) : EvT (tB ta) σ H p := fun H1 s1 Q q => a H1 s1 _ fun x H2 s2 M => ⟨x, rfl, q x H2 s2 M⟩
theorem evT_test (a : EvB ta σ H p) : EvT (tTest ta) σ H p := fun H1 s1 Q q => a H1 s1 _ fun x H2 s2 M => ⟨x, rfl, q x H2 s2 M⟩
theorem evT_not (a : EvT t σ H p) : EvT (tNot t) σ H (¬ p) := fun H1 s1 Q q => a H1 s1 _ fun x H2 s2 M => q _ H2 s2 (by rw [← M]; cases x <;> simp)
theorem evT_or (a : EvT t σ H p) (b : EvT u σ H r) : EvT (tOr t u) σ H (p ∨ r) := fun H1 s1 Q q => a H1 s1 _ fun x H2 s2 M => by
  cases x with
  | true => exact iteT (q _ H2 s2 (by simp [M.mp rfl]))
  | false => exact iteF (b H2 (s1.trans s2) _ fun y H3 s3 N => q _ H3 (s2.trans s3) (by
      have : ¬ p := fun z => nomatch M.mpr z
      rw [N]; simp [this]))
theorem evT_and (a : EvT t σ H p) (b : EvT u σ H r) : EvT (tAnd t u) σ H (p ∧ r) := fun H1 s1 Q q => a H1 s1 _ fun x H2 s2 M => by
  cases x with
  | true => exact iteT (b H2 (s1.trans s2) _ fun y H3 s3 N => q _ H3 (s2.trans s3) (by rw [N]; simp [M.mp rfl]))
  | false => exact iteF (q _ H2 s2 (by
      have : ¬ p := fun z => nomatch M.mpr z
      simp [this]))
/-- a test that does not hold: the block is passed -/
theorem ev_skip {b : TS} {e : TS} {D : Ends} (a : EvT t σ H p) (h : ¬ p) (k : ∀ H', Same H H' → e D σ H') : tIfS t b e D σ H := a H (Same.refl H) _ fun x H2 s2 M => by
  cases x with
  | true => exact absurd (M.mp rfl) h
  | false => exact iteF (k H2 s2)
theorem ev_take {b : TS} {e : TS} {D : Ends} (a : EvT t σ H p) (h : p) (k : ∀ H', Same H H' → b D σ H') : tIfS t b e D σ H := a H (Same.refl H) _ fun x H2 s2 M => by
  cases x with
  | true => exact iteT (k H2 s2)
  | false => exact nomatch M.mpr h
end
/-! ### the pairs (x, x) -/
def dg (p : Nat × Nat) : Nat × Nat := (p.1, p.1)
theorem arr_diag {n : Nat} {f : PF} (o : Ok n f) : arr n (mulF f (invF n f)) = (arr n f).map dg := by
  unfold arr
  rw [List.map_filterMap]
  refine congrArg (fun h => List.filterMap h (List.range n)) (funext fun x => ?_)
  cases e : f x with
  | none =>
    have : mulF f (invF n f) x = none := by unfold mulF; rw [e]; rfl
    rw [this]; rfl
  | some y =>
    have : mulF f (invF n f) x = some x := (mul_inv_iff o).mpr ⟨rfl, by rw [e]; rfl⟩
    rw [this]; rfl
theorem merge_new : ∀ (l a : List (Nat × Nat)), ((a ++ l).map (·.1)).Nodup → mergeK (a.map kp) (l.map kp) = (a ++ l).map kp
  | [], a, _ => by rw [List.append_nil]; rfl
  | (x, y) :: r, a, nd => by
    show mergeK (putK (a.map kp) (Sum.inl (x : Int)) (.int (y : Int))) (r.map kp) = _
    have nx : x ∉ a.map (·.1) := fun h => by
      rw [List.map_append, List.map_cons] at nd
      exact (List.nodup_append.mp nd).2.2 x h x List.mem_cons_self rfl
    rw [put_new y nx, merge_new r (a ++ [(x, y)]) (by rw [List.append_assoc]; exact nd), List.append_assoc]
    rfl
end CR

namespace CR
open PySem PySem.Spec PyProof.Rows L2 CM
section
variable {X : Cx} {A : Ad}
theorem mulO (T : Txt X.K X.mg A) (hr : Room 6 X.A) : OpR X (binaryOp .Mult) (rOwn2 A.C (spBin A.C noPre mulF) E0) := op_binG T.sf T.mulF.me.at_ T.mulF.me.fn (ok_mul T) hr
theorem andO (T : Txt X.K X.mg A) (hr : Room 6 X.A) : OpR X (binaryOp .BitAnd) (rOwn2 A.C (spBin A.C noPre andF) E0) := op_binG T.sf T.andF.me.at_ T.andF.me.fn (ok_and T) hr
theorem subO (T : Txt X.K X.mg A) (hr : Room 6 X.A) : OpR X (binaryOp .Sub) (rOwn2 A.C (spBin A.C noPre subF) E0) := op_binG T.sf T.subF.me.at_ T.subF.me.fn (ok_sub T) hr
theorem orO (T : Txt X.K X.mg A) (hr : Room 6 X.A) : OpR X (binaryOp .BitOr) (rOwn2 A.C (spBin A.C compat orF) E0) := op_binG T.sf T.orF.me.at_ T.orF.me.fn (ok_or T) hr
theorem leO (T : Txt X.K X.mg A) (hr : Room 6 X.A) : OpR X (compareOp .LtE) (rOwn2 A.C (spCmp A.C noPre3 fun _ f g => leF f g) E0) := op_cmpG (fun _ _ => rfl) T.nf T.leF.me.at_ T.leF.me.fn (ok_le T) (hr.mono (by decide))
theorem ltO (T : Txt X.K X.mg A) (hr : Room 6 X.A) : OpR X (compareOp .Lt) (rOwn2 A.C (spCmp A.C noPre3 fun _ f g => leF f g ∧ f ≠ g) E0) := op_cmpG (fun _ _ => rfl) T.nf T.ltF.me.at_ T.ltF.me.fn (ok_lt T) (hr.mono (by decide))
theorem geO (T : Txt X.K X.mg A) (hr : Room 6 X.A) : OpR X (compareOp .GtE) (rOwn2 A.C (spCmp A.C noPre3 fun _ f g => leF g f) E0) := op_cmpG (fun _ _ => rfl) T.nf T.geF.me.at_ T.geF.me.fn (ok_ge T) (hr.mono (by decide))
abbrev preEq : Nat → PF → PF → Prop := fun n f g => f = g ∨ (arr n f).length ≠ (arr n g).length
abbrev resEq : Nat → PF → PF → Prop := fun _ f g => f = g
theorem eqO (T : Txt X.K X.mg A) (hr : Room 6 X.A) : OpR X (compareOp .Eq) (rOwn2 A.C (spCmp A.C preEq resEq) E0) := op_cmpG (fun _ _ => rfl) T.nf T.eqF.me.at_ T.eqF.me.fn (ok_eq T) (hr.mono (by decide))
theorem neO (T : Txt X.K X.mg A) (hr : Room 6 X.A) : OpR X (compareOp .NotEq) (rNeOwn A.C (spCmp A.C preEq resEq) E0) := op_neOwnG T.ne T.eqF.me.at_ T.eqF.me.fn T.cm (ok_eq T) (hr.mono (by decide))
theorem invO (T : Txt X.K X.mg A) (hr : Room 6 X.A) : UnR X (unaryOp .Invert) (rInv1 A.C (spInv A.C) E0) := un_ownG T.invF.me.at_ T.invF.me.fn (ok_inv T) hr
end
section
variable {P : Program} {w : World} {K : PySem.W.Frag} {mg : Str → Option Value} {base : Heap} {A : Ad}
theorem ne_ok {C : Addr} {σ : L2.St} {H : Hp} {n : Nat} {f g : PF} {ta tb : TE} (a : EvM C ta σ H n f) (b : EvM C tb σ H n g) (h : f = g) : EvB (tOp (rNeOwn C (spCmp C preEq resEq) E0) ta tb) σ H False :=
  fun H1 s1 Q q => evB_ne a b (.inl h) H1 s1 Q fun b' H' s' z => q b' H' s' (z.trans ⟨fun u => u h, False.elim⟩)
theorem eq_ok {C : Addr} {σ : L2.St} {H : Hp} {n : Nat} {f g : PF} {ta tb : TE} (a : EvM C ta σ H n f) (b : EvM C tb σ H n g) (h : f = g) : EvB (tOp (rOwn2 C (spCmp C preEq resEq) E0) ta tb) σ H True :=
  fun H1 s1 Q q => evB_cmp a b (.inl h) H1 s1 Q fun b' H' s' z => q b' H' s' (z.trans ⟨fun _ => True.intro, fun _ => h⟩)
theorem evB_iff {t : TE} {σ : L2.St} {H : Hp} {p r : Prop} (a : EvB t σ H p) (h : p ↔ r) : EvB t σ H r := fun H1 s1 Q q => a H1 s1 Q fun b H' s' z => q b H' s' (z.trans h)
/-! ### _law_products -/
def spLaw3 (C : Addr) : Sp := fun vs H Q _ => ∃ (a b c : Addr) (n : Nat) (f g h : PF), vs = [.ref a, .ref b, .ref c] ∧ MapAt C H a n f ∧ MapAt C H b n g ∧ MapAt C H c n h ∧ ∀ H', Same H H' → Q (.bl true) H'
theorem scProducts : FnScope ["_law_one", "_law_other", "_law_last", "_law_source"] ["_law_one", "_law_other", "_law_last"] (defScope sProducts) := ⟨rfl, rfl, rfl, by decide +kernel, rfl, by decide +kernel, by decide +kernel⟩
theorem ok_products (T : Txt K mg A) : Good P w K mg base 7 A.products ["_law_one", "_law_other", "_law_last"] (spLaw3 A.C) := by
  refine T.productsF.d.good scProducts (fun vs H Q E h => ?_) (fun cdv B outer s H vs Q E hr h => ?_)
  · obtain ⟨a, b, c, n, f, g, h, rfl, _⟩ := h
    rfl
  · obtain ⟨a, b, c, n, f, g, h, rfl, M, N, L, q⟩ := h
    have hu := hu_of hr
    have sc := scProducts
    refine ⟨_, pss_cons (ps_if (PW.pt (pw_or (pt_cmpR (neO T hr) (pe_op (mulO T hr) (pe_op (mulO T hr) (pv 0) (pv 1)) (pv 2)) (pe_op (mulO T hr) (pv 0) (pe_op (mulO T hr) (pv 1) (pv 2))) (nomark _))
        (pw_or (pt_cmpR (neO T hr) (pe_un (invO T hr) (pe_op (mulO T hr) (pv 0) (pv 1))) (pe_op (mulO T hr) (pe_un (invO T hr) (pv 1)) (pe_un (invO T hr) (pv 0))) (nomark _))
        (pw_or1 (pt_cmpR (neO T hr) (pe_un (invO T hr) (pe_un (invO T hr) (pv 0))) (pv 0) (nomark _)))))) (pss_one (ps_ret pe_bl)) pss_nil)
      (pss_cons (ps_if (PW.pt (pw_or (pt_cmpR (neO T hr) (pe_op (mulO T hr) (pe_op (mulO T hr) (pv 0) (pe_un (invO T hr) (pv 0))) (pv 0)) (pv 0) (nomark _))
        (pw_or1 (pt_cmpR (op_ne_dictA hr.units0) (pe_propG (pe_op (mulO T hr) (pv 0) (pe_un (invO T hr) (pv 0))) T.cl T.arrowsP (ok_arrows T) (hr.mono (by decide)))
          (pe_callTy (call_dictP rfl) (by rfl) T.dict boot_dict (pa_cons (pe_lc (own := [("_law_source", 3)]) (g := gName 3) (tt := tYes) rfl sc.nd (pi_keysN (pe_propG (pv 0) T.cl T.arrowsP (ok_arrows T) (hr.mono (by decide))))
            (blkOk_by (N := ["_law_one", "_law_other", "_law_last", "_law_source"]) (sc := defScope sProducts) (by decide +kernel))
            (fun _ _ _ _ _ => pg_name (i := 3) sc.nd rfl (.inl rfl)) (fun _ _ _ _ _ => pts_nil) (fun _ _ _ _ _ => pe_tup (pa_cons (pv 3) (pa_cons (pv 3) pa_nil)))) pa_nil)) (nomark _))))) (pss_one (ps_ret pe_bl)) pss_nil)
      (pss_cons (ps_if (PW.pt (pw_and (pt_cmpR (leO T hr) (pe_op (mulO T hr) (pe_op (andO T hr) (pv 0) (pv 1)) (pv 2)) (pe_op (mulO T hr) (pv 0) (pv 2)) (nomark _))
        (pw_and1 (pt_cmpR (leO T hr) (pe_op (mulO T hr) (pv 2) (pe_op (andO T hr) (pv 0) (pv 1))) (pe_op (mulO T hr) (pv 2) (pv 1)) (nomark _)))))
        (pss_one (ps_ret (pe_and (pe_cmpR (eqO T hr) (pe_op (mulO T hr) (pv 0) (pe_cmethG (pe_glob (v := .ref A.C) (by rfl) T.mgC rfl) T.cr T.identityC (ok_identity T) hr (pa_cons (pe_propG (pv 0) T.cl T.sizeP (ok_size T) (hr.mono (by decide))) pa_nil))) (pv 0) (nomark _))
          (pe_one (pe_cmpR (eqO T hr) (pe_op (mulO T hr) (pv 0) (pe_cmethG (pe_glob (v := .ref A.C) (by rfl) T.mgC rfl) T.cr T.emptyC (ok_empty T) hr (pa_cons (pe_propG (pv 0) T.cl T.sizeP (ok_size T) (hr.mono (by decide))) pa_nil)))
            (pe_cmethG (pe_glob (v := .ref A.C) (by rfl) T.mgC rfl) T.cr T.emptyC (ok_empty T) hr (pa_cons (pe_propG (pv 0) T.cl T.sizeP (ok_size T) (hr.mono (by decide))) pa_nil)) (nomark _)))))) pss_nil)
      (pss_one (ps_ret pe_bl)))), ?_⟩
    have e0 : EvM A.C (tVar 0) [some (.ref a), some (.ref b), some (.ref c), none] H n f := evM_var rfl M
    have e1 : EvM A.C (tVar 1) [some (.ref a), some (.ref b), some (.ref c), none] H n g := evM_var rfl N
    have e2 : EvM A.C (tVar 2) [some (.ref a), some (.ref b), some (.ref c), none] H n h := evM_var rfl L
    refine ev_skip (evT_or (evT_test (ne_ok (evM_bin (evM_bin e0 e1 trivial) e2 trivial) (evM_bin e0 (evM_bin e1 e2 trivial) trivial) (mul_assoc f g h)))
      (evT_or (evT_test (ne_ok (evM_inv (evM_bin e0 e1 trivial)) (evM_bin (evM_inv e1) (evM_inv e0) trivial) (inv_mul M.ok N.ok))) (evT_test (ne_ok (evM_inv (evM_inv e0)) e0 (inv_inv M.ok))))) (by simp) (fun H1 s1 => ?_)
    refine ev_skip (evT_or (evT_test (ne_ok (evM_bin (evM_bin (e0.mono s1) (evM_inv (e0.mono s1)) trivial) (e0.mono s1) trivial) (e0.mono s1) (mul_inv_mul M.ok))) (evT_test (p := False) ?_)) (by simp) (fun H2 s2 => ?_)
    · intro H2 s2 Q' q'
      refine (evM_bin (f := f) (g := invF n f) (e0.mono s1) (evM_inv (e0.mono s1)) trivial) H2 s2 _ (fun x H3 s3 X3 => ?_)
      obtain ⟨dx, dd, hx, _⟩ := X3.ob
      refine ⟨x, dx, _, rfl, hx, x, n, _, rfl, X3, fun t ht => ?_⟩
      have s4 := s3.trans (same_upd ht (o := dk (arr n (mulF f (invF n f)))))
      have ht4 : (upd H3 t (dk (arr n (mulF f (invF n f))))) t = some (dk (arr n (mulF f (invF n f)))) := upd_same
      generalize upd H3 t (dk (arr n (mulF f (invF n f)))) = H4 at s4 ht4 ⊢
      have M4 := M.same ((s1.trans s2).trans s4)
      obtain ⟨dy, de, hy, _⟩ := M4.ob
      refine ⟨_, rfl, a, dy, _, rfl, hy, a, n, f, rfl, M4, fun u hu2 => ?_⟩
      refine ⟨u, (arr n f).map kp, rfl, upd_same, fun o D hD => ?_⟩
      rw [upd_upd] at hD ⊢
      have nDu : D ≠ u := fun z => by rw [z, upd_same] at hD; cases hD
      have s5 := same_upd hu2 (o := .frz o (dk (arr n f)))
      have hu5 : (upd H4 u (.frz o (dk (arr n f)))) u = some (.frz o (dk (arr n f))) := upd_same
      have hD' : (upd H4 u (.frz o (dk (arr n f)))) D = none := hD
      show ∃ W : Nat → Nat → Hp → Prop, (∃ m, W 0 m (upd (upd H4 u (.frz o (dk (arr n f)))) D (.lst []))) ∧ _
      generalize upd H4 u (.frz o (dk (arr n f))) = H5 at s5 hu5 hD' ⊢
      refine lc_any (J := Itk u o ((arr n f).map kp)) ((arr n f).map kp).length (fun i H' => Same H5 H' ∧ ∃ ps : List Addr, H' D = some (.lst (ps.map V.ref)) ∧ Paired (fun p kv => H' p = some (.tup [kV kv.1, kv.2])) ps ((((arr n f).take i).map dg).map kp))
        ⟨same_upd hD', [], upd_same, .nil⟩ (fun i H' hi ⟨s0, _⟩ => ⟨s0 _ _ hu5, hi⟩) ?_ ?_
      · rintro i v H' H6 hi ⟨s0, ps, hps, pr⟩ ⟨rfl, kk, vv, hkv, rfl⟩
        obtain ⟨y, z, hyz, rfl, rfl⟩ := kp_get hkv
        refine ⟨rfl, ?_⟩
        refine ⟨_, rfl, _, rfl, by show 2 ≤ sizeLine; exact le_line (by decide), fun U hU => ?_⟩
        have nDU : D ≠ U := ne_of_none hps hU
        have pl := pr.length
        refine ⟨ps.map V.ref, by rw [upd_ne nDU]; exact hps, small1000 ?_, same_put (same_upd' s0 hU) hD', ps ++ [U], ?_, ?_⟩
        · rw [List.length_map, pl, List.length_map, List.length_map, List.length_take]
          have := arr_len (f := f) M.hi
          omega
        · rw [upd_same, List.map_append]
          rfl
        · rw [List.take_add_one, hyz, List.map_append, List.map_append]
          refine Paired.snoc (L2.Paired.mapP pr fun p kv e => ?_) ?_
          · have np : p ≠ D := ne_of e hps (by intro z; cases z)
            rw [upd_ne np, upd_ne (ne_of_none e hU)]
            exact e
          · rw [upd_ne nDU.symm, upd_same]
            rfl
      · rintro H6 ⟨s0, ps, hps, pr⟩
        refine ⟨⟨s0 _ _ hu5, Nat.le_refl _⟩, ?_⟩
        rw [List.length_map, List.take_length] at pr
        refine ⟨D, ps, _, rfl, SqL.of hps, L2.Paired.mapP pr (fun p kv e => SqT.of e), fun z hz => ?_⟩
        have em : mergeK [] ((((arr n f).map dg)).map kp) = ((arr n f).map dg).map kp := merge_new ((arr n f).map dg) [] (by rw [← arr_diag M.ok]; exact nodup_keys_arr n _)
        rw [em, ← arr_diag M.ok]
        have s7 := same_upd' ((s4.trans s5).trans s0) hz (o := dk (arr n (mulF f (invF n f))))
        have ht7 := (same_upd' (s5.trans s0) hz (o := dk (arr n (mulF f (invF n f))))) _ _ ht4
        refine ⟨t, z, _, _, rfl, rfl, ht7, upd_same, rfl, fun p hp => ⟨?_, flat_kp _ p hp⟩, q' false _ s7 (by simp)⟩
        obtain ⟨y, hy, rfl⟩ := List.mem_map.mp hp
        have oF := M.ok.mul M.ok.inv
        show valV ((arr n (mulF f (invF n f))).map kp) (Sum.inl (y.1 : Int)) = some (V.int (y.2 : Int))
        rw [val_arr oF, (rep_arr oF y.1 y.2).mp hy]
        rfl
    · have s3 := s1.trans s2
      have f0 := e0.mono s3
      have f1 := e1.mono s3
      have f2 := e2.mono s3
      refine ev_take (evT_and (evT_test (evB_cmp (evM_bin (evM_bin f0 f1 trivial) f2 trivial) (evM_bin f0 f2 trivial) trivial)) (evT_test (evB_cmp (evM_bin f2 (evM_bin f0 f1 trivial) trivial) (evM_bin f2 f1 trivial) trivial)))
        ⟨mul_mono_left and_le, mul_mono_right and_le2⟩ (fun H3 s4 => ?_)
      have g0 := f0.mono s4
      refine evB_and (eq_ok (evM_bin g0 (evM_cls (evI_size g0) M.lo M.hi) trivial) g0 (mul_id M.ok)) (eq_ok (evM_bin g0 (evM_cls (evI_size g0) M.lo M.hi) trivial) (evM_cls (evI_size g0) M.lo M.hi) mul_no) H3 (Same.refl H3) _ (fun b H4 s5 hb => ?_)
      have : b = true := hb.mpr ⟨trivial, trivial⟩
      subst this
      exact q H4 ((s3.trans s4).trans s5)
end
end CR

namespace CR
open PySem PySem.Spec PyProof.Rows L2 CM
section
variable {P : Program} {w : World} {K : PySem.W.Frag} {mg : Str → Option Value} {base : Heap} {A : Ad}
/-! ### _law_parts -/
theorem compat_parts {n : Nat} {f g : PF} (o : Ok n f) : compat (subF f g) (andF f g) := fun x y u v h h' => by
  have h1 := (sub_iff.mp h).1
  have h2 := (and_iff.mp h').1
  constructor
  · intro e; rw [e, h2] at h1; exact (Option.some.inj h1).symm
  · intro e; rw [e] at h1; exact o.inj _ _ _ h1 h2
theorem or_parts {n : Nat} {f g : PF} (o : Ok n f) : orF (subF f g) (andF f g) = f := ext fun x y => by
  rw [or_iff (compat_parts o)]
  exact sub_or_and
theorem scParts : FnScope ["_law_one", "_law_other", "_law_last", "_law_both"] ["_law_one", "_law_other", "_law_last"] (defScope sParts) := ⟨rfl, rfl, rfl, by decide +kernel, rfl, by decide +kernel, by decide +kernel⟩
theorem ok_parts (T : Txt K mg A) : Good P w K mg base 7 A.parts ["_law_one", "_law_other", "_law_last"] (spLaw3 A.C) := by
  refine T.partsF.d.good scParts (fun vs H Q E h => ?_) (fun cdv B outer s H vs Q E hr h => ?_)
  · obtain ⟨a, b, c, n, f, g, h, rfl, _⟩ := h
    rfl
  · obtain ⟨a, b, c, n, f, g, h, rfl, M, N, L, q⟩ := h
    have sc := scParts
    refine ⟨_, pss_cons (ps_set (i := 3) sc.nd rfl (.inl rfl) (pe_op (andO T hr) (pv 0) (pv 1)))
      (pss_cons (ps_if (PW.pt (pw_or (pt_not (pt_cmpR (leO T hr) (pv 3) (pv 0) (nomark _))) (pw_or (pt_not (pt_cmpR (leO T hr) (pv 3) (pv 1) (nomark _)))
        (pw_or1 (pt_cmpR op_ne (pe_cmpR (leO T hr) (pe_op (andO T hr) (pv 0) (pv 2)) (pv 3) (nomark _)) (pe_cmpR (leO T hr) (pe_op (andO T hr) (pv 0) (pv 2)) (pv 1) (nomark _)) (nomark _)))))) (pss_one (ps_ret pe_bl)) pss_nil)
      (pss_cons (ps_if (PW.pt (pw_or (pt_cmpR (neO T hr) (pe_op (orO T hr) (pe_op (subO T hr) (pv 0) (pv 1)) (pv 3)) (pv 0) (nomark _))
        (pw_or1 (pt_cmpR (neO T hr) (pe_op (andO T hr) (pe_op (subO T hr) (pv 0) (pv 1)) (pv 1)) (pe_cmethG (pe_glob (v := .ref A.C) (by rfl) T.mgC rfl) T.cr T.emptyC (ok_empty T) hr (pa_cons (pe_propG (pv 0) T.cl T.sizeP (ok_size T) (hr.mono (by decide))) pa_nil)) (nomark _)))))
        (pss_one (ps_ret pe_bl)) pss_nil)
      (pss_one (ps_ret (pe_and (pe_cmpR (leO T hr) (pe_op (subO T hr) (pv 0) (pv 1)) (pv 0) (nomark _)) (pe_and (pe_cmpR op_eq (pe_cmpR (ltO T hr) (pv 3) (pv 0) (nomark _)) (pe_cmpR (neO T hr) (pv 3) (pv 0) (nomark _)) (nomark _))
        (pe_and (pe_cmpR (geO T hr) (pv 0) (pv 3) (nomark _)) (pe_one (pe_not (pe_cmpR (ltO T hr) (pv 0) (pv 0) (nomark _))))))))))), ?_⟩
    refine evM_bin (C := A.C) (σ := [some (.ref a), some (.ref b), some (.ref c), none]) (evM_var rfl M) (evM_var rfl N) trivial H (Same.refl H) _ (fun d H1 s1 D => ?_)
    have e0 : EvM A.C (tVar 0) [some (.ref a), some (.ref b), some (.ref c), some (.ref d)] H1 n f := evM_var rfl (M.same s1)
    have e1 : EvM A.C (tVar 1) [some (.ref a), some (.ref b), some (.ref c), some (.ref d)] H1 n g := evM_var rfl (N.same s1)
    have e2 : EvM A.C (tVar 2) [some (.ref a), some (.ref b), some (.ref c), some (.ref d)] H1 n h := evM_var rfl (L.same s1)
    have e3 : EvM A.C (tVar 3) [some (.ref a), some (.ref b), some (.ref c), some (.ref d)] H1 n (andF f g) := evM_var rfl D
    refine ev_skip (evT_or (evT_not (evT_test (evB_cmp e3 e0 trivial))) (evT_or (evT_not (evT_test (evB_cmp e3 e1 trivial)))
      (evT_test (evB_neB (evB_cmp (evM_bin e0 e2 trivial) e3 trivial) (evB_cmp (evM_bin e0 e2 trivial) e1 trivial))))) ?_ (fun H2 s2 => ?_)
    · rintro (z | z | z)
      · exact z and_le
      · exact z and_le2
      · exact z (and_greatest and_le)
    have f0 := e0.mono s2
    have f1 := e1.mono s2
    have f3 := e3.mono s2
    refine ev_skip (evT_or (evT_test (ne_ok (evM_bin (evM_bin f0 f1 trivial) f3 (compat_parts M.ok)) f0 (or_parts M.ok)))
      (evT_test (ne_ok (evM_bin (evM_bin f0 f1 trivial) f1 trivial) (evM_cls (evI_size f0) M.lo M.hi) sub_and))) (by simp) (fun H3 s3 => ?_)
    have g0 := f0.mono s3
    have g1 := f1.mono s3
    have g3 := f3.mono s3
    have pr : preEq n (andF f g) f := by
      by_cases e : (arr n (andF f g)).length = (arr n f).length
      · exact .inl (eq_of_len M.ok and_le e)
      · exact .inr e
    refine evB_and (evB_cmp (evM_bin g0 g1 trivial) g0 trivial) (evB_and (evB_eqB (evB_cmp g3 g0 trivial) (evB_ne g3 g0 pr)) (evB_and (evB_cmp g0 g3 trivial) (evB_not (evB_cmp g0 g0 trivial)))) H3 (Same.refl H3) _ (fun b H4 s4 hb => ?_)
    have : b = true := hb.mpr ⟨sub_le, ⟨fun z => z.2, fun z => ⟨and_le, z⟩⟩, and_le, fun z => z.2 rfl⟩
    subst this
    exact q H4 (((s1.trans s2).trans s3).trans s4)
end
end CR

namespace CR
open PySem PySem.Spec PyProof.Rows L2 CM
section
variable {P : Program} {w : World} {K : PySem.W.Frag} {mg : Str → Option Value} {base : Heap} {A : Ad}
/-! ### _law_powers -/
def spPowers (C : Addr) : Sp := fun vs H Q _ => ∃ (p a : Addr) (n : Nat) (f : PF), vs = [.ref p, .ref a] ∧ Pool p H ∧ MapAt C H a n f ∧ ∀ H', SameP p H H' → Pool p H' → Q (.bl true) H'
theorem scPowers : FnScope ["_law_pool", "_law_one", "_law_first", "_law_second"] ["_law_pool", "_law_one"] (defScope sPowers) := ⟨rfl, rfl, rfl, by decide +kernel, rfl, by decide +kernel, by decide +kernel⟩
theorem ok_powers (T : Txt K mg A) : Good P w K mg base 8 A.powers ["_law_pool", "_law_one"] (spPowers A.C) := by
  refine T.powersF.d.good scPowers (fun vs H Q E h => ?_) (fun cdv B outer s H vs Q E hr h => ?_)
  · obtain ⟨p, a, n, f, rfl, _⟩ := h
    rfl
  · obtain ⟨p, a, n, f, rfl, hp, M, q⟩ := h
    have sc := scPowers
    have hr6 := hr.mono (show 6 ≤ 7 by decide)
    refine ⟨_, pss_cons (ps_par (i := 2) (j := 3) rfl sc.nd rfl rfl (by decide) rfl rfl (pa_cons (pe_callG (ok_draw T) (hr.mono (by decide)) (by rfl) T.drawF.g (pa_cons (pv 0) (pa_cons pe_int pa_nil)))
        (pa_cons (pe_callG (ok_draw T) (hr.mono (by decide)) (by rfl) T.drawF.g (pa_cons (pv 0) (pa_cons pe_int pa_nil))) pa_nil)) rfl)
      (pss_cons (ps_if (pt_cmpR (neO T hr6) (pe_op (mulO T hr6) (pe_methG (pv 1) T.cl T.powerF.me (ok_power T) hr (pa_cons (pv 2) pa_nil)) (pe_methG (pv 1) T.cl T.powerF.me (ok_power T) hr (pa_cons (pv 3) pa_nil))) (pe_methG (pv 1) T.cl T.powerF.me (ok_power T) hr (pa_cons (pe_op op_add (pv 2) (pv 3)) pa_nil)) (nomark _)) (pss_one (ps_ret pe_bl)) pss_nil)
      (pss_cons (ps_if (pt_not (pt_cmpR (leO T hr6) (pe_op (mulO T hr6) (pe_methG (pv 1) T.cl T.powerF.me (ok_power T) hr (pa_cons (pv 2) pa_nil)) (pe_methG (pv 1) T.cl T.powerF.me (ok_power T) hr (pa_cons (pe_un un_neg (pv 3)) pa_nil))) (pe_methG (pv 1) T.cl T.powerF.me (ok_power T) hr (pa_cons (pe_op op_sub (pv 2) (pv 3)) pa_nil)) (nomark _))) (pss_one (ps_ret pe_bl)) pss_nil)
      (pss_cons (ps_if (pt_cmpR (neO T hr6) (pe_methG (pe_methG (pv 1) T.cl T.powerF.me (ok_power T) hr (pa_cons (pv 2) pa_nil)) T.cl T.powerF.me (ok_power T) hr (pa_cons (pv 3) pa_nil)) (pe_methG (pv 1) T.cl T.powerF.me (ok_power T) hr (pa_cons (pe_op op_mul (pv 2) (pv 3)) pa_nil)) (nomark _)) (pss_one (ps_ret pe_bl)) pss_nil)
      (pss_cons (ps_if (pt_cmpR (neO T hr6) (pe_un (invO T hr6) (pe_methG (pv 1) T.cl T.powerF.me (ok_power T) hr (pa_cons (pv 2) pa_nil))) (pe_methG (pv 1) T.cl T.powerF.me (ok_power T) hr (pa_cons (pe_un un_neg (pv 2)) pa_nil)) (nomark _)) (pss_one (ps_ret pe_bl)) pss_nil)
      (pss_one (ps_ret (pe_cmpR (eqO T hr6) (pe_op (mulO T hr6) (pe_methG (pv 1) T.cl T.powerF.me (ok_power T) hr (pa_cons (pe_un un_neg (pv 2)) pa_nil)) (pe_methG (pv 1) T.cl T.powerF.me (ok_power T) hr (pa_cons (pe_un un_neg (pv 3)) pa_nil))) (pe_methG (pv 1) T.cl T.powerF.me (ok_power T) hr (pa_cons (pe_op op_sub (pe_un un_neg (pv 2)) (pv 3)) pa_nil)) (nomark _)))))))), ?_⟩
    refine ⟨_, rfl, p, 9, rfl, hp, by decide, by decide, fun i H1 s1 _ hp1 i0 i9 => ?_⟩
    refine ⟨_, rfl, p, 9, rfl, hp1, by decide, by decide, fun j H2 s2 _ hp2 j0 j9 => ?_⟩
    refine ⟨_, _, rfl, ?_⟩
    have M2 := M.sameP hp (s1.trans s2)
    have s3 := s1.trans s2
    obtain ⟨i, rfl⟩ : ∃ k : Nat, i = (k : Int) := ⟨i.toNat, by omega⟩
    obtain ⟨j, rfl⟩ : ∃ k : Nat, j = (k : Int) := ⟨j.toNat, by omega⟩
    have o := M.ok
    show tSeq _ _ _ [some (.ref p), some (.ref a), some (.int (i : Int)), some (.int (j : Int))] H2
    have e : EvM A.C (tVar 1) [some (.ref p), some (.ref a), some (.int (i : Int)), some (.int (j : Int))] H2 n f := evM_var rfl M2
    have ei : EvI (tVar 2) [some (.ref p), some (.ref a), some (.int (i : Int)), some (.int (j : Int))] H2 i := evI_var rfl
    have ej : EvI (tVar 3) [some (.ref p), some (.ref a), some (.int (i : Int)), some (.int (j : Int))] H2 j := evI_var rfl
    refine ev_skip (evT_test (ne_ok (evM_bin (evM_pow e ei) (evM_pow e ej) trivial) (evM_pow e (evI_add ei ej)) (pow_add o i j))) (fun z => z) (fun H3 t1 => ?_)
    replace e := e.mono t1
    have ei1 : EvI (tVar 2) [some (.ref p), some (.ref a), some (.int (i : Int)), some (.int (j : Int))] H3 i := evI_var rfl
    have ej1 : EvI (tVar 3) [some (.ref p), some (.ref a), some (.int (i : Int)), some (.int (j : Int))] H3 j := evI_var rfl
    refine ev_skip (evT_not (evT_test (evB_cmp (evM_bin (evM_pow e ei1) (evM_pow e (evI_neg ej1)) trivial) (evM_pow e (evI_sub ei1 ej1)) trivial))) (fun z => z (pow_mixed o i j)) (fun H4 t2 => ?_)
    replace e := e.mono t2
    have ei2 : EvI (tVar 2) [some (.ref p), some (.ref a), some (.int (i : Int)), some (.int (j : Int))] H4 i := evI_var rfl
    have ej2 : EvI (tVar 3) [some (.ref p), some (.ref a), some (.int (i : Int)), some (.int (j : Int))] H4 j := evI_var rfl
    refine ev_skip (evT_test (ne_ok (evM_pow (evM_pow e ei2) ej2) (evM_pow e (evI_mul ei2 ej2 (.inl ⟨by omega, by omega⟩))) (pow_mul o i j))) (fun z => z) (fun H5 t3 => ?_)
    replace e := e.mono t3
    have ei3 : EvI (tVar 2) [some (.ref p), some (.ref a), some (.int (i : Int)), some (.int (j : Int))] H5 i := evI_var rfl
    refine ev_skip (evT_test (ne_ok (evM_inv (evM_pow e ei3)) (evM_pow e (evI_neg ei3)) (inv_pow o i))) (fun z => z) (fun H6 t4 => ?_)
    replace e := e.mono t4
    have ei4 : EvI (tVar 2) [some (.ref p), some (.ref a), some (.int (i : Int)), some (.int (j : Int))] H6 i := evI_var rfl
    have ej4 : EvI (tVar 3) [some (.ref p), some (.ref a), some (.int (i : Int)), some (.int (j : Int))] H6 j := evI_var rfl
    refine eq_ok (evM_bin (evM_pow e (evI_neg ei4)) (evM_pow e (evI_neg ej4)) trivial) (evM_pow e (evI_sub (evI_neg ei4) ej4)) (pow_negs o i j) H6 (Same.refl H6) _ (fun b H7 t5 hb => ?_)
    have : b = true := hb.mpr trivial
    subst this
    have t := ((((t1.trans t2).trans t3).trans t4).trans t5)
    exact q H7 (s3.trans (SameP.of t)) (hp2.same t)
end
end CR

namespace CR
open PySem PySem.Spec PyProof.Rows L2 CM
theorem SameP.toSame {p : Addr} {H H1 H2 : Hp} (s : Same H H1) (h : H p = none) (t : SameP p H1 H2) : Same H H2 := fun b o e => t b o (ne_of_none e h) (s b o e)
theorem MapAt.sameL {C D : Addr} {H H' : Hp} {a : Addr} {n : Nat} {f : PF} {xs : List V} (m : MapAt C H a n f) (hD : H D = some (.lst xs)) (s : SameP D H H') : MapAt C H' a n f :=
  ⟨m.ok, m.lo, m.hi, let ⟨dx, d, h1, h2⟩ := m.ob; ⟨dx, d, s _ _ (ne_of h1 hD (by intro z; cases z)) h1, s _ _ (ne_of h2 hD (by intro z; cases z)) h2⟩⟩
theorem evM_ix {C : Addr} {K : PySem.W.Frag} {σ : L2.St} {H : Hp} {n : Nat} {f : PF} {i : Nat} {D m : Addr} {xs : List V} {k : Int} (hs : σ[i]? = some (some (.ref D))) (hL : SqL K H D xs) (ha : atI xs k = some (.ref m)) (M : MapAt C H m n f) :
    EvM C (tOp (rIxL K) (tVar i) (tC (.int k))) σ H n f := fun H1 s1 Q q => ⟨_, hs, D, xs, k, _, rfl, rfl, s1.seq hL, ha, q m H1 (Same.refl H1) (M.same s1)⟩
section
variable {P : Program} {w : World} {K : PySem.W.Frag} {mg : Str → Option Value} {base : Heap} {A : Ad}
/-! ### law -/
def spLaw (K : PySem.W.Frag) : Sp := fun vs H Q _ => ∃ (a : Addr) (ns : List Int), vs = [.ref a] ∧ SqL K H a (ns.map V.int) ∧ ns.length ≤ 63 ∧ ∀ H', Q (.bl true) H'
theorem scLaw : FnScope ["_law_script", "_law_k", "_law_pool", "_law_size", "_law_some", "_law_rows", "_law_one", "_law_other", "_law_last", "_law_turn"] ["_law_script"] (defScope sLaw) := ⟨rfl, rfl, rfl, by decide +kernel, rfl, by decide +kernel, by decide +kernel⟩
theorem ok_law {fa : Addr} {fd : FuncData} (F : Fun K "law" "law" sLaw fa fd) (T : Txt K mg A) : FnOk P w K mg base CX0 9 fa fd ["_law_script"] (spLaw K) := by
  refine F.ok scLaw (fun vs H Q E h => ?_) (fun cdv B outer s H vs Q E hr h => ?_)
  · obtain ⟨a, ns, rfl, _⟩ := h
    rfl
  · obtain ⟨a, ns, rfl, hS, hlen, q⟩ := h
    have sc := scLaw
    have hr6 := hr.mono (show 6 ≤ 8 by decide)
    refine ⟨_, pss_cons (ps_for PassesOwn.never rfl (pi_range1 (by rfl) T.range (pa_cons (pe_callB (call_max2 rfl) (by rfl) T.max boot_max (pa_cons pe_int (pa_cons
        (pe_callB (call_min2 rfl) (by rfl) T.min boot_min (pa_cons (pe_callB call_len_seq (by rfl) T.len PySem.boot_len (pa_cons (pv 0) pa_nil)) (pa_cons pe_int pa_nil))) pa_nil))) pa_nil)) (pg_name (i := 1) sc.nd rfl (.inl rfl))
      (pss_cons (ps_set (i := 2) sc.nd rfl (.inr rfl) (pe_callG (ok_hand T) (hr.mono (by decide)) (by rfl) T.handF.g (pa_cons (pv 0) (pa_cons (pv 1) pa_nil))))
      (pss_cons (ps_set (i := 3) sc.nd rfl (.inr rfl) (pe_op op_add pe_int (pe_callG (ok_draw T) (hr.mono (by decide)) (by rfl) T.drawF.g (pa_cons (pv 2) (pa_cons pe_int pa_nil)))))
      (pss_cons (ps_setLc (i := 4) (own := [("_law_turn", 9)]) (g := gName 9) (tt := tYes) rfl sc.nd rfl rfl (sw_true rfl rfl rfl (by decide +kernel)) (pi_range1 (by rfl) T.range (pa_cons pe_int pa_nil))
        (blkOk_by (N := ["_law_script", "_law_k", "_law_pool", "_law_size", "_law_some", "_law_rows", "_law_one", "_law_other", "_law_last", "_law_turn"]) (sc := defScope sLaw) (by decide +kernel))
        (fun _ _ _ _ _ => pg_name (i := 9) sc.nd rfl (.inl rfl)) (fun _ _ _ _ _ => pts_nil)
        (fun _ _ _ _ _ => pe_makeG T.mke (ok_init T) (hr.mono (by decide)) (by rfl) T.mgC (pa_cons (pv 3) (pa_cons (pe_callG (ok_arrowsL T) (hr.mono (by decide)) (by rfl) T.lawArrowsF.g (pa_cons (pv 2) (pa_cons (pv 3) (pa_cons
          (pe_op op_add pe_int (pe_callG (ok_draw T) (hr.mono (by decide)) (by rfl) T.drawF.g (pa_cons (pv 2) (pa_cons pe_int pa_nil)))) pa_nil)))) pa_nil))))
      (pss_cons (ps_set (i := 5) sc.nd rfl (.inl rfl) (pe_lst (pa_cons (pe_tup (pa_cons (pe_ix ix_list (pv 4) pe_int (fun _ _ => rfl)) (pa_cons (pe_ix ix_list (pv 4) pe_int (fun _ _ => rfl)) (pa_cons (pe_ix ix_list (pv 4) pe_int (fun _ _ => rfl)) pa_nil))))
        (pa_cons (pe_tup (pa_cons (pe_ix ix_list (pv 4) pe_int (fun _ _ => rfl)) (pa_cons (pe_ix ix_list (pv 4) pe_int (fun _ _ => rfl)) (pa_cons (pe_op (andO T hr6) (pe_ix ix_list (pv 4) pe_int (fun _ _ => rfl)) (pe_ix ix_list (pv 4) pe_int (fun _ _ => rfl))) pa_nil))))
        (pa_cons (pe_tup (pa_cons (pe_ix ix_list (pv 4) pe_int (fun _ _ => rfl)) (pa_cons (pe_ix ix_list (pv 4) pe_int (fun _ _ => rfl)) (pa_cons (pe_ix ix_list (pv 4) pe_int (fun _ _ => rfl)) pa_nil)))) pa_nil)))))
      (pss_cons (ps_for PassesOwn.never rfl (pi_list (pv 5)) (pg_tup rfl (pgs_cons (pg_name (i := 6) sc.nd rfl (.inl rfl)) (pgs_cons (pg_name (i := 7) sc.nd rfl (.inl rfl)) (pgs_cons (pg_name (i := 8) sc.nd rfl (.inl rfl)) pgs_nil))))
        (pss_one (ps_if (PW.pt (pw_or (pt_not (pt_val (pe_callG (ok_products T) (hr.mono (by decide)) (by rfl) T.productsF.g (pa_cons (pv 6) (pa_cons (pv 7) (pa_cons (pv 8) pa_nil))))))
          (pw_or1 (pt_not (pt_val (pe_callG (ok_parts T) (hr.mono (by decide)) (by rfl) T.partsF.g (pa_cons (pv 6) (pa_cons (pv 7) (pa_cons (pv 8) pa_nil)))))))))
          (pss_one (ps_ret pe_bl)) pss_nil)))
      (pss_one (ps_if (PW.pt (pw_or (pt_not (pt_val (pe_callG (ok_powers T) hr (by rfl) T.powersF.g (pa_cons (pv 2) (pa_cons (pe_ix ix_list (pv 4) pe_int (fun _ _ => rfl)) pa_nil)))))
          (pw_or1 (pt_not (pt_val (pe_callG (ok_powers T) hr (by rfl) T.powersF.g (pa_cons (pv 2) (pa_cons (pe_op (subO T hr6) (pe_ix ix_list (pv 4) pe_int (fun _ _ => rfl)) (pe_ix ix_list (pv 4) pe_int (fun _ _ => rfl))) pa_nil))))))))
          (pss_one (ps_ret pe_bl)) pss_nil))))))))
      (pss_one (ps_ret pe_bl)), ?_⟩
    have a0 : ∀ u v z : V, atI [u, v, z] 0 = some u := fun u v z => atI_nat (j := 0) rfl
    have a1 : ∀ u v z : V, atI [u, v, z] 1 = some v := fun u v z => atI_nat (j := 1) rfl
    have a2 : ∀ u v z : V, atI [u, v, z] 2 = some z := fun u v z => atI_nat (j := 2) rfl
    refine ⟨_, rfl, a, _, rfl, .inl hS, _, _, rfl, _, _, rfl, ?_⟩
    obtain ⟨r, hr1, hr2⟩ : ∃ r : Nat, (if (if (10 : Int) < ((ns.map V.int).length : Nat) then (10 : Int) else ((ns.map V.int).length : Nat)) > 2 then (if (10 : Int) < ((ns.map V.int).length : Nat) then (10 : Int) else ((ns.map V.int).length : Nat)) else 2) = (r : Int) ∧ r ≤ 10 := by
      generalize (ns.map V.int).length = l
      by_cases h1 : (10 : Int) < (l : Nat)
      · rw [if_pos h1]
        exact ⟨10, by decide, by decide⟩
      · rw [if_neg h1]
        by_cases h2 : ((l : Nat) : Int) > 2
        · rw [if_pos h2]; exact ⟨l, rfl, by omega⟩
        · rw [if_neg h2]; exact ⟨2, rfl, by decide⟩
    refine ⟨(r : Int), congrArg (fun z => [V.int z]) hr1, by omega, by omega, ?_⟩
    rw [Int.toNat_natCast]
    refine for_any (J := Itr 0 r) r (fun i σ H' => ∃ (u1 u2 u3 u4 u5 u6 u7 u8 u9 : Option V), σ = [some (.ref a), u1, u2, u3, u4, u5, u6, u7, u8, u9] ∧ Same H H') ⟨none, none, none, none, none, none, none, none, none, rfl, Same.refl H⟩ (fun i σ H' hi _ => hi) ?_ ?_
    · rintro i σ H' x H0 hi ⟨u1, u2, u3, u4, u5, u6, u7, u8, u9, rfl, s0⟩ ⟨rfl, rfl⟩
      rw [Int.zero_add]
      refine ⟨_, rfl, _, rfl, a, ns, i, rfl, s0.seq hS, hlen, by omega, fun p H1 s1 p0 hp1 => ?_⟩
      refine ⟨_, rfl, p, 7, rfl, hp1, by decide, by decide, fun k H2 s2 f2 hp2 k0 k7 => ?_⟩
      refine ⟨_, _, rfl, rfl, ?_⟩
      obtain ⟨k, rfl⟩ : ∃ j : Nat, k = (j : Int) := ⟨k.toNat, by omega⟩
      have t2 : Same H0 H2 := SameP.toSame s1 p0 s2
      obtain ⟨n, en, n1, n3⟩ : ∃ n : Nat, (1 : Int) + (k : Int) = (n : Int) ∧ 1 ≤ n ∧ n ≤ 300 := ⟨k + 1, by omega, by omega, by omega⟩
      show gName 3 (V.int ((1 : Int) + (k : Int))) _ H2 _
      rw [en]
      refine ⟨3, rfl, by decide, by decide, fun D hD => ?_⟩
      have nDp : D ≠ p := fun z => by obtain ⟨_, _, e, _⟩ := hp2; rw [z, e] at hD; cases hD
      have hpD : Pool p (upd H2 D (.lst [])) := hp2.same (same_upd hD)
      refine lc_any (J := Itr 0 3) 3 (fun i H' => SameP p H2 H' ∧ Pool p H' ∧ ∃ ms : List Addr, H' D = some (.lst (ms.map V.ref)) ∧ ms.length = i ∧ ∀ m ∈ ms, ∃ f, MapAt A.C H' m n f)
        ⟨SameP.of (same_upd hD), hpD, [], upd_same, rfl, fun m h => (nomatch h)⟩ (fun i H' hi _ => hi) ?_ ?_
      · rintro j v H' H3 hj ⟨s3, hp3, ms, hms, el, all⟩ ⟨rfl, rfl⟩
        refine ⟨rfl, ?_⟩
        refine ⟨_, rfl, _, rfl, _, rfl, _, rfl, p, 4, rfl, hp3, by decide, by decide, fun z H4 s4 f4 hp4 z0 z4 => ?_⟩
        refine ⟨_, _, rfl, rfl, p, n, _, rfl, hp4, n3, fun d l f H5 s5 hp5 hd rp ok nd => ?_⟩
        refine made (C := A.C) (Q := fun y H4 => ∃ acc, H4 D = some (HO.lst acc) ∧ acc.length < sizeLine ∧ SameP p H2 (upd H4 D (HO.lst (acc ++ [y]))) ∧ Pool p (upd H4 D (HO.lst (acc ++ [y]))) ∧
            ∃ ms : List Addr, upd H4 D (HO.lst (acc ++ [y])) D = some (HO.lst (ms.map V.ref)) ∧ ms.length = j + 1 ∧ ∀ m ∈ ms, ∃ f, MapAt A.C (upd H4 D (HO.lst (acc ++ [y]))) m n f) hd rp ok n1 n3 nd (fun x H6 s6 nx MM => ?_)
        have t6 : SameP p H3 H6 := (s4.trans s5).trans (SameP.of s6)
        have hD6 : H6 D = some (.lst (ms.map V.ref)) := t6 _ _ nDp hms
        have hp6 := hp5.same s6
        refine ⟨_, hD6, small1000 (by rw [List.length_map]; omega), ?_, ?_, ms ++ [x], ?_, by rw [List.length_append, el]; rfl, ?_⟩
        · intro b o hb e
          rw [upd_ne (ne_of_none e hD)]
          exact (s3.trans t6) b o hb e
        · obtain ⟨y1, y2, e, ey⟩ := hp6
          exact ⟨y1, y2, by rw [upd_ne nDp.symm]; exact e, ey⟩
        · rw [upd_same, List.map_append]; rfl
        · intro m hm
          rcases List.mem_append.mp hm with h | h
          · obtain ⟨f', M'⟩ := all m h
            exact ⟨f', (M'.sameP hp3 t6).sameL hD6 SameP.upd⟩
          · rw [List.mem_singleton.mp h]
            exact ⟨f, MM.sameL hD6 SameP.upd⟩
      · rintro H3 ⟨s3, hp3, ms, hms, el, all⟩
        refine ⟨Nat.le_refl _, ?_⟩
        obtain ⟨m0, m1, m2, rfl⟩ : ∃ m0 m1 m2, ms = [m0, m1, m2] := by
          match ms, el with
          | [x, y, z], _ => exact ⟨x, y, z, rfl⟩
        have t3 : Same H0 H3 := SameP.toSame s1 p0 (s2.trans s3)
        obtain ⟨f0, M0⟩ := all m0 (by simp)
        obtain ⟨f1, M1⟩ := all m1 (by simp)
        obtain ⟨f2', M2⟩ := all m2 (by simp)
        have hL : SqL K H3 D [.ref m0, .ref m1, .ref m2] := SqL.of hms
        refine ⟨_, rfl, D, _, 0, _, rfl, rfl, hL, a0 _ _ _, _, rfl, D, _, 1, _, rfl, rfl, hL, a1 _ _ _, _, rfl, D, _, 2, _, rfl, rfl, hL, a2 _ _ _, le_line (by show 3 ≤ 1000; decide), fun w1 hw1 => ?_⟩
        have s4 := same_upd hw1 (o := .tup [.ref m0, .ref m1, .ref m2])
        have hw1' : (upd H3 w1 (.tup [.ref m0, .ref m1, .ref m2])) w1 = some (.tup [.ref m0, .ref m1, .ref m2]) := upd_same
        generalize upd H3 w1 (.tup [.ref m0, .ref m1, .ref m2]) = H4 at s4 hw1' ⊢
        have hL4 := s4.seq hL
        refine ⟨_, rfl, D, _, 1, _, rfl, rfl, hL4, a1 _ _ _, _, rfl, D, _, 0, _, rfl, rfl, hL4, a0 _ _ _, ?_⟩
        refine evM_bin (evM_ix rfl hL4 (a0 _ _ _) (M0.same s4)) (evM_ix rfl hL4 (a1 _ _ _) (M1.same s4)) trivial H4 (Same.refl _) _ (fun mb H5 s5 MB => ?_)
        refine ⟨le_line (by show 3 ≤ 1000; decide), fun w2 hw2 => ?_⟩
        have s6 := same_upd hw2 (o := .tup [.ref m1, .ref m0, .ref mb])
        have hw2' : (upd H5 w2 (.tup [.ref m1, .ref m0, .ref mb])) w2 = some (.tup [.ref m1, .ref m0, .ref mb]) := upd_same
        generalize upd H5 w2 (.tup [.ref m1, .ref m0, .ref mb]) = H6 at s6 hw2' ⊢
        have t6 := (s4.trans s5).trans s6
        have hL6 := t6.seq hL
        refine ⟨_, rfl, D, _, 2, _, rfl, rfl, hL6, a2 _ _ _, _, rfl, D, _, 2, _, rfl, rfl, hL6, a2 _ _ _, _, rfl, D, _, 0, _, rfl, rfl, hL6, a0 _ _ _, le_line (by show 3 ≤ 1000; decide), fun w3 hw3 => ?_⟩
        have s7 := same_upd hw3 (o := .tup [.ref m2, .ref m2, .ref m0])
        have hw3' : (upd H6 w3 (.tup [.ref m2, .ref m2, .ref m0])) w3 = some (.tup [.ref m2, .ref m2, .ref m0]) := upd_same
        generalize upd H6 w3 (.tup [.ref m2, .ref m2, .ref m0]) = H7 at s7 hw3' ⊢
        refine ⟨le_line (by show 3 ≤ 1000; decide), fun R hR => ?_⟩
        have s8 := same_upd hR (o := .lst [.ref w1, .ref w2, .ref w3])
        have hR' : (upd H7 R (.lst [.ref w1, .ref w2, .ref w3])) R = some (.lst [.ref w1, .ref w2, .ref w3]) := upd_same
        generalize upd H7 R (.lst [.ref w1, .ref w2, .ref w3]) = H8 at s8 hR' ⊢
        have t8 := (t6.trans s7).trans s8
        have hL8 := t8.seq hL
        have M08 := M0.same t8
        have M18 := M1.same t8
        have M28 := M2.same t8
        have MB8 := MB.same ((s6.trans s7).trans s8)
        have hw1 := (((s5.trans s6).trans s7).trans s8) _ _ hw1'
        have hw2 := (s7.trans s8) _ _ hw2'
        have hw3 := s8 _ _ hw3'
        have hp8 := hp3.same t8
        have hall : ∀ x ∈ [V.ref w1, V.ref w2, V.ref w3], ∃ (t u v z : Addr) (f g h : PF), x = V.ref t ∧ H8 t = some (.tup [.ref u, .ref v, .ref z]) ∧ MapAt A.C H8 u n f ∧ MapAt A.C H8 v n g ∧ MapAt A.C H8 z n h := by
          intro x hx
          rcases List.mem_cons.mp hx with e | hx
          · exact ⟨w1, m0, m1, m2, _, _, _, e, hw1, M08, M18, M28⟩
          rcases List.mem_cons.mp hx with e | hx
          · exact ⟨w2, m1, m0, mb, _, _, _, e, hw2, M18, M08, MB8⟩
          · exact ⟨w3, m2, m2, m0, _, _, _, List.mem_singleton.mp hx, hw3, M28, M28, M08⟩
        refine ⟨_, rfl, R, rfl, ⟨_, SqL.of hR'⟩, for_list (K := K) (a := R) (xs := [V.ref w1, V.ref w2, V.ref w3]) (fun j σ H' => ∃ (e6 e7 e8 : Option V),
            σ = [some (.ref a), some (.int (i : Int)), some (.ref p), some (.int (n : Int)), some (.ref D), some (.ref R), e6, e7, e8, u9] ∧ Same H8 H') ⟨u6, u7, u8, rfl, Same.refl H8⟩ (fun j σ H' _ ⟨_, _, _, _, s⟩ => SqL.of (s _ _ hR')) ?_ ?_⟩
        · rintro j x σ H' hj ⟨e6, e7, e8, rfl, s9⟩
          obtain ⟨t, u, v, z, f, g, h, rfl, ht, Mu, Mv, Mz⟩ := hall x (List.mem_of_getElem? hj)
          refine ⟨t, _, rfl, SqT.of (s9 _ _ ht), rfl, _, _, rfl, _, _, rfl, _, _, rfl, rfl, ?_⟩
          refine ⟨_, rfl, _, rfl, _, rfl, u, v, z, n, f, g, h, rfl, Mu.same s9, Mv.same s9, Mz.same s9, fun H10 s10 => ⟨_, rfl, iteF ?_⟩⟩
          have s11 := s9.trans s10
          refine ⟨_, rfl, _, rfl, _, rfl, u, v, z, n, f, g, h, rfl, Mu.same s11, Mv.same s11, Mz.same s11, fun H12 s12 => ⟨_, rfl, iteF ?_⟩⟩
          exact ⟨_, _, _, rfl, s11.trans s12⟩
        · rintro σ H' ⟨e6, e7, e8, rfl, s9⟩
          have hL9 := s9.seq hL8
          have hp9 := hp8.same s9
          refine ⟨_, rfl, _, rfl, D, _, 0, _, rfl, rfl, hL9, a0 _ _ _, p, m0, n, f0, rfl, hp9, M08.same s9, fun H10 s10 hp10 => ⟨_, rfl, iteF ?_⟩⟩
          have hD9 : H' D = some (.lst ([m0, m1, m2].map V.ref)) := (t8.trans s9) _ _ hms
          have hL10 : SqL K H10 D [.ref m0, .ref m1, .ref m2] := SqL.of (s10 _ _ nDp hD9)
          have M1x := (M18.same s9).sameP hp9 s10
          have M2x := (M28.same s9).sameP hp9 s10
          refine ⟨_, rfl, ?_⟩
          refine evM_bin (evM_ix rfl hL10 (a1 _ _ _) M1x) (evM_ix rfl hL10 (a2 _ _ _) M2x) trivial H10 (Same.refl _) _ (fun ms H11 s11 MS => ?_)
          refine ⟨p, ms, n, _, rfl, hp10.same s11, MS, fun H12 s12 hp12 => ⟨_, rfl, iteF ?_⟩⟩
          refine ⟨_, _, _, _, _, _, _, _, _, rfl, ?_⟩
          have z1 : Same H0 H' := t3.trans (t8.trans s9)
          have z2 : SameP p H' H12 := (s10.trans (SameP.of s11)).trans s12
          exact s0.trans (SameP.toSame z1 p0 z2)
    · rintro σ H' ⟨u1, u2, u3, u4, u5, u6, u7, u8, u9, rfl, s0⟩
      exact ⟨Nat.le_refl _, q H'⟩
end
end CR

namespace CR
open PySem PySem.Spec PyProof.Rows L2 CM
/-! ### what the top has written -/
theorem mkD {K : PySem.W.Frag} {x qual : Str} {st : Stmt} {f : Addr} {ps : List Str} {oc : Value} {od an : Option Addr} {osl : Array (Option Value)} {kV doc pm cdv ct : Value}
    (lk : K.lookup f = some ⟨oc, od, .func (PySem.W.fnOf x qual (defArgs st) (defBody st) (defScope st) .none kV doc pm an cdv ct), osl⟩) (c : PySem.W.codeIn K cdv qual = true) (k : PySem.W.keepIn K (.ref f) = true)
    (h : ∀ (kV doc pm : Value) (an : Option Addr) (cdv ct : Value) (us : List Value), us.length = ps.length → bindArgs (PySem.W.fnOf x qual (defArgs st) (defBody st) (defScope st) .none kV doc pm an cdv ct) ⟨us, []⟩ = pure (ps.zip us)) : DefF K x qual st f ps :=
  ⟨_, fun_mk lk c k, (fun_mk lk c k).binds h⟩
theorem all_mk {lw : PySem.W.OpenLaw} {w : World} {K : PySem.W.Frag} {h : Heap} {mg : Str → Option Value} {fa C f_isInt f_inRange f_checkSize f_areArrows f_common f_rowFrom f_moved f_isPart f_firstClash f_hand f_draw f_lawArrows f_products f_parts f_powers f_law f_init f_mul f_inv f_power f_and f_sub f_or f_le f_lt f_ge f_eq f_identity p_identity f_empty p_empty f_size p_size f_arrows p_arrows : Addr} {mc : Value} {tk : Tok} (X : K.In h) (G : h.Ns mainGlobals mg) (hfa : mg "law" = some (.ref fa))
    {od_isInt an_isInt : Option Addr} {sl_isInt : Array (Option Value)} {oc_isInt kV_isInt dc_isInt pm_isInt cd_isInt ct_isInt : Value}
    {od_inRange an_inRange : Option Addr} {sl_inRange : Array (Option Value)} {oc_inRange kV_inRange dc_inRange pm_inRange cd_inRange ct_inRange : Value}
    {od_checkSize an_checkSize : Option Addr} {sl_checkSize : Array (Option Value)} {oc_checkSize kV_checkSize dc_checkSize pm_checkSize cd_checkSize ct_checkSize : Value}
    {od_areArrows an_areArrows : Option Addr} {sl_areArrows : Array (Option Value)} {oc_areArrows kV_areArrows dc_areArrows pm_areArrows cd_areArrows ct_areArrows : Value}
    {od_common an_common : Option Addr} {sl_common : Array (Option Value)} {oc_common kV_common dc_common pm_common cd_common ct_common : Value}
    {od_rowFrom an_rowFrom : Option Addr} {sl_rowFrom : Array (Option Value)} {oc_rowFrom kV_rowFrom dc_rowFrom pm_rowFrom cd_rowFrom ct_rowFrom : Value}
    {od_moved an_moved : Option Addr} {sl_moved : Array (Option Value)} {oc_moved kV_moved dc_moved pm_moved cd_moved ct_moved : Value}
    {od_isPart an_isPart : Option Addr} {sl_isPart : Array (Option Value)} {oc_isPart kV_isPart dc_isPart pm_isPart cd_isPart ct_isPart : Value}
    {od_firstClash an_firstClash : Option Addr} {sl_firstClash : Array (Option Value)} {oc_firstClash kV_firstClash dc_firstClash pm_firstClash cd_firstClash ct_firstClash : Value}
    {od_hand an_hand : Option Addr} {sl_hand : Array (Option Value)} {oc_hand kV_hand dc_hand pm_hand cd_hand ct_hand : Value}
    {od_draw an_draw : Option Addr} {sl_draw : Array (Option Value)} {oc_draw kV_draw dc_draw pm_draw cd_draw ct_draw : Value}
    {od_lawArrows an_lawArrows : Option Addr} {sl_lawArrows : Array (Option Value)} {oc_lawArrows kV_lawArrows dc_lawArrows pm_lawArrows cd_lawArrows ct_lawArrows : Value}
    {od_products an_products : Option Addr} {sl_products : Array (Option Value)} {oc_products kV_products dc_products pm_products cd_products ct_products : Value}
    {od_parts an_parts : Option Addr} {sl_parts : Array (Option Value)} {oc_parts kV_parts dc_parts pm_parts cd_parts ct_parts : Value}
    {od_powers an_powers : Option Addr} {sl_powers : Array (Option Value)} {oc_powers kV_powers dc_powers pm_powers cd_powers ct_powers : Value}
    {od_law an_law : Option Addr} {sl_law : Array (Option Value)} {oc_law kV_law dc_law pm_law cd_law ct_law : Value}
    {od_init an_init : Option Addr} {sl_init : Array (Option Value)} {oc_init kV_init dc_init pm_init cd_init ct_init : Value}
    {od_mul an_mul : Option Addr} {sl_mul : Array (Option Value)} {oc_mul kV_mul dc_mul pm_mul cd_mul ct_mul : Value}
    {od_inv an_inv : Option Addr} {sl_inv : Array (Option Value)} {oc_inv kV_inv dc_inv pm_inv cd_inv ct_inv : Value}
    {od_power an_power : Option Addr} {sl_power : Array (Option Value)} {oc_power kV_power dc_power pm_power cd_power ct_power : Value}
    {od_and an_and : Option Addr} {sl_and : Array (Option Value)} {oc_and kV_and dc_and pm_and cd_and ct_and : Value}
    {od_sub an_sub : Option Addr} {sl_sub : Array (Option Value)} {oc_sub kV_sub dc_sub pm_sub cd_sub ct_sub : Value}
    {od_or an_or : Option Addr} {sl_or : Array (Option Value)} {oc_or kV_or dc_or pm_or cd_or ct_or : Value}
    {od_le an_le : Option Addr} {sl_le : Array (Option Value)} {oc_le kV_le dc_le pm_le cd_le ct_le : Value}
    {od_lt an_lt : Option Addr} {sl_lt : Array (Option Value)} {oc_lt kV_lt dc_lt pm_lt cd_lt ct_lt : Value}
    {od_ge an_ge : Option Addr} {sl_ge : Array (Option Value)} {oc_ge kV_ge dc_ge pm_ge cd_ge ct_ge : Value}
    {od_eq an_eq : Option Addr} {sl_eq : Array (Option Value)} {oc_eq kV_eq dc_eq pm_eq cd_eq ct_eq : Value}
    {r_identity : List Value}
    {od_identity an_identity : Option Addr} {sl_identity : Array (Option Value)} {oc_identity kV_identity dc_identity pm_identity cd_identity ct_identity : Value}
    {r_empty : List Value}
    {od_empty an_empty : Option Addr} {sl_empty : Array (Option Value)} {oc_empty kV_empty dc_empty pm_empty cd_empty ct_empty : Value}
    {r_size : List Value}
    {od_size an_size : Option Addr} {sl_size : Array (Option Value)} {oc_size kV_size dc_size pm_size cd_size ct_size : Value}
    {r_arrows : List Value}
    {od_arrows an_arrows : Option Addr} {sl_arrows : Array (Option Value)} {oc_arrows kV_arrows dc_arrows pm_arrows cd_arrows ct_arrows : Value}
    (aC : PySem.W.nsIn K mainGlobals "Map" = some (some (.ref C)))
    (a_isInt : PySem.W.nsIn K mainGlobals "is_integer" = some (some (.ref f_isInt)))
    (l_isInt : K.lookup f_isInt = some ⟨oc_isInt, od_isInt, .func (PySem.W.fnOf "is_integer" "is_integer" (defArgs sIsInt) (defBody sIsInt) (defScope sIsInt) .none kV_isInt dc_isInt pm_isInt an_isInt cd_isInt ct_isInt), sl_isInt⟩)
    (c_isInt : PySem.W.codeIn K cd_isInt "is_integer" = true)
    (k_isInt : PySem.W.keepIn K (.ref f_isInt) = true)
    (a_inRange : PySem.W.nsIn K mainGlobals "in_range" = some (some (.ref f_inRange)))
    (l_inRange : K.lookup f_inRange = some ⟨oc_inRange, od_inRange, .func (PySem.W.fnOf "in_range" "in_range" (defArgs sInRange) (defBody sInRange) (defScope sInRange) .none kV_inRange dc_inRange pm_inRange an_inRange cd_inRange ct_inRange), sl_inRange⟩)
    (c_inRange : PySem.W.codeIn K cd_inRange "in_range" = true)
    (k_inRange : PySem.W.keepIn K (.ref f_inRange) = true)
    (a_checkSize : PySem.W.nsIn K mainGlobals "check_size" = some (some (.ref f_checkSize)))
    (l_checkSize : K.lookup f_checkSize = some ⟨oc_checkSize, od_checkSize, .func (PySem.W.fnOf "check_size" "check_size" (defArgs sCheckSize) (defBody sCheckSize) (defScope sCheckSize) .none kV_checkSize dc_checkSize pm_checkSize an_checkSize cd_checkSize ct_checkSize), sl_checkSize⟩)
    (c_checkSize : PySem.W.codeIn K cd_checkSize "check_size" = true)
    (k_checkSize : PySem.W.keepIn K (.ref f_checkSize) = true)
    (a_areArrows : PySem.W.nsIn K mainGlobals "are_arrows" = some (some (.ref f_areArrows)))
    (l_areArrows : K.lookup f_areArrows = some ⟨oc_areArrows, od_areArrows, .func (PySem.W.fnOf "are_arrows" "are_arrows" (defArgs sAreArrows) (defBody sAreArrows) (defScope sAreArrows) .none kV_areArrows dc_areArrows pm_areArrows an_areArrows cd_areArrows ct_areArrows), sl_areArrows⟩)
    (c_areArrows : PySem.W.codeIn K cd_areArrows "are_arrows" = true)
    (k_areArrows : PySem.W.keepIn K (.ref f_areArrows) = true)
    (a_common : PySem.W.nsIn K mainGlobals "common_size" = some (some (.ref f_common)))
    (l_common : K.lookup f_common = some ⟨oc_common, od_common, .func (PySem.W.fnOf "common_size" "common_size" (defArgs sCommon) (defBody sCommon) (defScope sCommon) .none kV_common dc_common pm_common an_common cd_common ct_common), sl_common⟩)
    (c_common : PySem.W.codeIn K cd_common "common_size" = true)
    (k_common : PySem.W.keepIn K (.ref f_common) = true)
    (a_rowFrom : PySem.W.nsIn K mainGlobals "row_from" = some (some (.ref f_rowFrom)))
    (l_rowFrom : K.lookup f_rowFrom = some ⟨oc_rowFrom, od_rowFrom, .func (PySem.W.fnOf "row_from" "row_from" (defArgs sRowFrom) (defBody sRowFrom) (defScope sRowFrom) .none kV_rowFrom dc_rowFrom pm_rowFrom an_rowFrom cd_rowFrom ct_rowFrom), sl_rowFrom⟩)
    (c_rowFrom : PySem.W.codeIn K cd_rowFrom "row_from" = true)
    (k_rowFrom : PySem.W.keepIn K (.ref f_rowFrom) = true)
    (a_moved : PySem.W.nsIn K mainGlobals "moved" = some (some (.ref f_moved)))
    (l_moved : K.lookup f_moved = some ⟨oc_moved, od_moved, .func (PySem.W.fnOf "moved" "moved" (defArgs sMoved) (defBody sMoved) (defScope sMoved) .none kV_moved dc_moved pm_moved an_moved cd_moved ct_moved), sl_moved⟩)
    (c_moved : PySem.W.codeIn K cd_moved "moved" = true)
    (k_moved : PySem.W.keepIn K (.ref f_moved) = true)
    (a_isPart : PySem.W.nsIn K mainGlobals "is_part" = some (some (.ref f_isPart)))
    (l_isPart : K.lookup f_isPart = some ⟨oc_isPart, od_isPart, .func (PySem.W.fnOf "is_part" "is_part" (defArgs sIsPart) (defBody sIsPart) (defScope sIsPart) .none kV_isPart dc_isPart pm_isPart an_isPart cd_isPart ct_isPart), sl_isPart⟩)
    (c_isPart : PySem.W.codeIn K cd_isPart "is_part" = true)
    (k_isPart : PySem.W.keepIn K (.ref f_isPart) = true)
    (a_firstClash : PySem.W.nsIn K mainGlobals "first_clash" = some (some (.ref f_firstClash)))
    (l_firstClash : K.lookup f_firstClash = some ⟨oc_firstClash, od_firstClash, .func (PySem.W.fnOf "first_clash" "first_clash" (defArgs sFirstClash) (defBody sFirstClash) (defScope sFirstClash) .none kV_firstClash dc_firstClash pm_firstClash an_firstClash cd_firstClash ct_firstClash), sl_firstClash⟩)
    (c_firstClash : PySem.W.codeIn K cd_firstClash "first_clash" = true)
    (k_firstClash : PySem.W.keepIn K (.ref f_firstClash) = true)
    (a_hand : PySem.W.nsIn K mainGlobals "_law_hand" = some (some (.ref f_hand)))
    (l_hand : K.lookup f_hand = some ⟨oc_hand, od_hand, .func (PySem.W.fnOf "_law_hand" "_law_hand" (defArgs sHand) (defBody sHand) (defScope sHand) .none kV_hand dc_hand pm_hand an_hand cd_hand ct_hand), sl_hand⟩)
    (c_hand : PySem.W.codeIn K cd_hand "_law_hand" = true)
    (k_hand : PySem.W.keepIn K (.ref f_hand) = true)
    (a_draw : PySem.W.nsIn K mainGlobals "_law_draw" = some (some (.ref f_draw)))
    (l_draw : K.lookup f_draw = some ⟨oc_draw, od_draw, .func (PySem.W.fnOf "_law_draw" "_law_draw" (defArgs sDraw) (defBody sDraw) (defScope sDraw) .none kV_draw dc_draw pm_draw an_draw cd_draw ct_draw), sl_draw⟩)
    (c_draw : PySem.W.codeIn K cd_draw "_law_draw" = true)
    (k_draw : PySem.W.keepIn K (.ref f_draw) = true)
    (a_lawArrows : PySem.W.nsIn K mainGlobals "_law_arrows" = some (some (.ref f_lawArrows)))
    (l_lawArrows : K.lookup f_lawArrows = some ⟨oc_lawArrows, od_lawArrows, .func (PySem.W.fnOf "_law_arrows" "_law_arrows" (defArgs sLawArrows) (defBody sLawArrows) (defScope sLawArrows) .none kV_lawArrows dc_lawArrows pm_lawArrows an_lawArrows cd_lawArrows ct_lawArrows), sl_lawArrows⟩)
    (c_lawArrows : PySem.W.codeIn K cd_lawArrows "_law_arrows" = true)
    (k_lawArrows : PySem.W.keepIn K (.ref f_lawArrows) = true)
    (a_products : PySem.W.nsIn K mainGlobals "_law_products" = some (some (.ref f_products)))
    (l_products : K.lookup f_products = some ⟨oc_products, od_products, .func (PySem.W.fnOf "_law_products" "_law_products" (defArgs sProducts) (defBody sProducts) (defScope sProducts) .none kV_products dc_products pm_products an_products cd_products ct_products), sl_products⟩)
    (c_products : PySem.W.codeIn K cd_products "_law_products" = true)
    (k_products : PySem.W.keepIn K (.ref f_products) = true)
    (a_parts : PySem.W.nsIn K mainGlobals "_law_parts" = some (some (.ref f_parts)))
    (l_parts : K.lookup f_parts = some ⟨oc_parts, od_parts, .func (PySem.W.fnOf "_law_parts" "_law_parts" (defArgs sParts) (defBody sParts) (defScope sParts) .none kV_parts dc_parts pm_parts an_parts cd_parts ct_parts), sl_parts⟩)
    (c_parts : PySem.W.codeIn K cd_parts "_law_parts" = true)
    (k_parts : PySem.W.keepIn K (.ref f_parts) = true)
    (a_powers : PySem.W.nsIn K mainGlobals "_law_powers" = some (some (.ref f_powers)))
    (l_powers : K.lookup f_powers = some ⟨oc_powers, od_powers, .func (PySem.W.fnOf "_law_powers" "_law_powers" (defArgs sPowers) (defBody sPowers) (defScope sPowers) .none kV_powers dc_powers pm_powers an_powers cd_powers ct_powers), sl_powers⟩)
    (c_powers : PySem.W.codeIn K cd_powers "_law_powers" = true)
    (k_powers : PySem.W.keepIn K (.ref f_powers) = true)
    (a_law : PySem.W.nsIn K mainGlobals "law" = some (some (.ref f_law)))
    (l_law : K.lookup f_law = some ⟨oc_law, od_law, .func (PySem.W.fnOf "law" "law" (defArgs sLaw) (defBody sLaw) (defScope sLaw) .none kV_law dc_law pm_law an_law cd_law ct_law), sl_law⟩)
    (c_law : PySem.W.codeIn K cd_law "law" = true)
    (k_law : PySem.W.keepIn K (.ref f_law) = true)
    (a_init : PySem.W.findIn K (.ref C) "__init__" = some (some (.ref f_init)))
    (i_init : PySem.W.isFn K (.ref f_init) = true)
    (l_init : K.lookup f_init = some ⟨oc_init, od_init, .func (PySem.W.fnOf "__init__" "Map.__init__" (defArgs sInit) (defBody sInit) (defScope sInit) .none kV_init dc_init pm_init an_init cd_init ct_init), sl_init⟩)
    (c_init : PySem.W.codeIn K cd_init "Map.__init__" = true)
    (k_init : PySem.W.keepIn K (.ref f_init) = true)
    (a_mul : PySem.W.findIn K (.ref C) "__mul__" = some (some (.ref f_mul)))
    (i_mul : PySem.W.isFn K (.ref f_mul) = true)
    (l_mul : K.lookup f_mul = some ⟨oc_mul, od_mul, .func (PySem.W.fnOf "__mul__" "Map.__mul__" (defArgs sMul) (defBody sMul) (defScope sMul) .none kV_mul dc_mul pm_mul an_mul cd_mul ct_mul), sl_mul⟩)
    (c_mul : PySem.W.codeIn K cd_mul "Map.__mul__" = true)
    (k_mul : PySem.W.keepIn K (.ref f_mul) = true)
    (a_inv : PySem.W.findIn K (.ref C) "__invert__" = some (some (.ref f_inv)))
    (i_inv : PySem.W.isFn K (.ref f_inv) = true)
    (l_inv : K.lookup f_inv = some ⟨oc_inv, od_inv, .func (PySem.W.fnOf "__invert__" "Map.__invert__" (defArgs sInvert) (defBody sInvert) (defScope sInvert) .none kV_inv dc_inv pm_inv an_inv cd_inv ct_inv), sl_inv⟩)
    (c_inv : PySem.W.codeIn K cd_inv "Map.__invert__" = true)
    (k_inv : PySem.W.keepIn K (.ref f_inv) = true)
    (a_power : PySem.W.findIn K (.ref C) "power" = some (some (.ref f_power)))
    (i_power : PySem.W.isFn K (.ref f_power) = true)
    (l_power : K.lookup f_power = some ⟨oc_power, od_power, .func (PySem.W.fnOf "power" "Map.power" (defArgs sPower) (defBody sPower) (defScope sPower) .none kV_power dc_power pm_power an_power cd_power ct_power), sl_power⟩)
    (c_power : PySem.W.codeIn K cd_power "Map.power" = true)
    (k_power : PySem.W.keepIn K (.ref f_power) = true)
    (a_and : PySem.W.findIn K (.ref C) "__and__" = some (some (.ref f_and)))
    (i_and : PySem.W.isFn K (.ref f_and) = true)
    (l_and : K.lookup f_and = some ⟨oc_and, od_and, .func (PySem.W.fnOf "__and__" "Map.__and__" (defArgs sAnd) (defBody sAnd) (defScope sAnd) .none kV_and dc_and pm_and an_and cd_and ct_and), sl_and⟩)
    (c_and : PySem.W.codeIn K cd_and "Map.__and__" = true)
    (k_and : PySem.W.keepIn K (.ref f_and) = true)
    (a_sub : PySem.W.findIn K (.ref C) "__sub__" = some (some (.ref f_sub)))
    (i_sub : PySem.W.isFn K (.ref f_sub) = true)
    (l_sub : K.lookup f_sub = some ⟨oc_sub, od_sub, .func (PySem.W.fnOf "__sub__" "Map.__sub__" (defArgs sSub) (defBody sSub) (defScope sSub) .none kV_sub dc_sub pm_sub an_sub cd_sub ct_sub), sl_sub⟩)
    (c_sub : PySem.W.codeIn K cd_sub "Map.__sub__" = true)
    (k_sub : PySem.W.keepIn K (.ref f_sub) = true)
    (a_or : PySem.W.findIn K (.ref C) "__or__" = some (some (.ref f_or)))
    (i_or : PySem.W.isFn K (.ref f_or) = true)
    (l_or : K.lookup f_or = some ⟨oc_or, od_or, .func (PySem.W.fnOf "__or__" "Map.__or__" (defArgs sOr) (defBody sOr) (defScope sOr) .none kV_or dc_or pm_or an_or cd_or ct_or), sl_or⟩)
    (c_or : PySem.W.codeIn K cd_or "Map.__or__" = true)
    (k_or : PySem.W.keepIn K (.ref f_or) = true)
    (a_le : PySem.W.findIn K (.ref C) "__le__" = some (some (.ref f_le)))
    (i_le : PySem.W.isFn K (.ref f_le) = true)
    (l_le : K.lookup f_le = some ⟨oc_le, od_le, .func (PySem.W.fnOf "__le__" "Map.__le__" (defArgs sLe) (defBody sLe) (defScope sLe) .none kV_le dc_le pm_le an_le cd_le ct_le), sl_le⟩)
    (c_le : PySem.W.codeIn K cd_le "Map.__le__" = true)
    (k_le : PySem.W.keepIn K (.ref f_le) = true)
    (a_lt : PySem.W.findIn K (.ref C) "__lt__" = some (some (.ref f_lt)))
    (i_lt : PySem.W.isFn K (.ref f_lt) = true)
    (l_lt : K.lookup f_lt = some ⟨oc_lt, od_lt, .func (PySem.W.fnOf "__lt__" "Map.__lt__" (defArgs sLt) (defBody sLt) (defScope sLt) .none kV_lt dc_lt pm_lt an_lt cd_lt ct_lt), sl_lt⟩)
    (c_lt : PySem.W.codeIn K cd_lt "Map.__lt__" = true)
    (k_lt : PySem.W.keepIn K (.ref f_lt) = true)
    (a_ge : PySem.W.findIn K (.ref C) "__ge__" = some (some (.ref f_ge)))
    (i_ge : PySem.W.isFn K (.ref f_ge) = true)
    (l_ge : K.lookup f_ge = some ⟨oc_ge, od_ge, .func (PySem.W.fnOf "__ge__" "Map.__ge__" (defArgs sGe) (defBody sGe) (defScope sGe) .none kV_ge dc_ge pm_ge an_ge cd_ge ct_ge), sl_ge⟩)
    (c_ge : PySem.W.codeIn K cd_ge "Map.__ge__" = true)
    (k_ge : PySem.W.keepIn K (.ref f_ge) = true)
    (a_eq : PySem.W.findIn K (.ref C) "__eq__" = some (some (.ref f_eq)))
    (i_eq : PySem.W.isFn K (.ref f_eq) = true)
    (l_eq : K.lookup f_eq = some ⟨oc_eq, od_eq, .func (PySem.W.fnOf "__eq__" "Map.__eq__" (defArgs sEq) (defBody sEq) (defScope sEq) .none kV_eq dc_eq pm_eq an_eq cd_eq ct_eq), sl_eq⟩)
    (c_eq : PySem.W.codeIn K cd_eq "Map.__eq__" = true)
    (k_eq : PySem.W.keepIn K (.ref f_eq) = true)
    (tyC : PySem.W.typeIn K (.ref C) = some mc)
    (rdC : PySem.W.readsIn K C mc = true)
    (gaC : PySem.W.specialIn K (.ref C) "__getattribute__" = some (some (.builtin "type.__getattribute__")))
    (a_identity : PySem.W.findCls K (.ref C) mc "identity" = some (.get (.builtin "classmethod.__get__") (.ref p_identity) .none (.ref C)))
    (rc_identity : PySem.W.recIn K p_identity "classmethod" = some (.ref f_identity :: r_identity))
    (fi_identity : PySem.W.fnIn K f_identity = true)
    (l_identity : K.lookup f_identity = some ⟨oc_identity, od_identity, .func (PySem.W.fnOf "identity" "Map.identity" (defArgs sIdentity) (defBody sIdentity) (defScope sIdentity) .none kV_identity dc_identity pm_identity an_identity cd_identity ct_identity), sl_identity⟩)
    (c_identity : PySem.W.codeIn K cd_identity "Map.identity" = true)
    (k_identity : PySem.W.keepIn K (.ref f_identity) = true)
    (a_empty : PySem.W.findCls K (.ref C) mc "empty" = some (.get (.builtin "classmethod.__get__") (.ref p_empty) .none (.ref C)))
    (rc_empty : PySem.W.recIn K p_empty "classmethod" = some (.ref f_empty :: r_empty))
    (fi_empty : PySem.W.fnIn K f_empty = true)
    (l_empty : K.lookup f_empty = some ⟨oc_empty, od_empty, .func (PySem.W.fnOf "empty" "Map.empty" (defArgs sEmpty) (defBody sEmpty) (defScope sEmpty) .none kV_empty dc_empty pm_empty an_empty cd_empty ct_empty), sl_empty⟩)
    (c_empty : PySem.W.codeIn K cd_empty "Map.empty" = true)
    (k_empty : PySem.W.keepIn K (.ref f_empty) = true)
    (a_size : PySem.W.findIn K (.ref C) "size" = some (some (.ref p_size)))
    (g_size : PySem.W.specialIn K (.ref p_size) "__get__" = some (some (.builtin "property.__get__")))
    (t_size : PySem.W.takesIn K (.ref p_size) = some true)
    (rc_size : PySem.W.recIn K p_size "property" = some (.ref f_size :: r_size))
    (l_size : K.lookup f_size = some ⟨oc_size, od_size, .func (PySem.W.fnOf "size" "Map.size" (defArgs sSize) (defBody sSize) (defScope sSize) .none kV_size dc_size pm_size an_size cd_size ct_size), sl_size⟩)
    (c_size : PySem.W.codeIn K cd_size "Map.size" = true)
    (k_size : PySem.W.keepIn K (.ref f_size) = true)
    (a_arrows : PySem.W.findIn K (.ref C) "arrows" = some (some (.ref p_arrows)))
    (g_arrows : PySem.W.specialIn K (.ref p_arrows) "__get__" = some (some (.builtin "property.__get__")))
    (t_arrows : PySem.W.takesIn K (.ref p_arrows) = some true)
    (rc_arrows : PySem.W.recIn K p_arrows "property" = some (.ref f_arrows :: r_arrows))
    (l_arrows : K.lookup f_arrows = some ⟨oc_arrows, od_arrows, .func (PySem.W.fnOf "arrows" "Map.arrows" (defArgs sArrows) (defBody sArrows) (defScope sArrows) .none kV_arrows dc_arrows pm_arrows an_arrows cd_arrows ct_arrows), sl_arrows⟩)
    (c_arrows : PySem.W.codeIn K cd_arrows "Map.arrows" = true)
    (k_arrows : PySem.W.keepIn K (.ref f_arrows) = true)
    (pg : PySem.W.plainGet K C Str.empty = true)
    (hd : PySem.W.hasDictIn K C = true)
    (po : PySem.W.plainOver K C = true)
    (sa : PySem.W.findIn K (.ref C) "__setattr__" = some (some (.builtin "object.__setattr__")))
    (mk : PySem.W.makesIn K C = true)
    (kc : PySem.W.keepIn K (.ref C) = true)
    (nS : PySem.W.findIn K (.ref C) "own_size" = some none)
    (nA : PySem.W.findIn K (.ref C) "own_arrows" = some none)
    (ca : PySem.W.findIn K (.ref C) "__class__" = some (some (.builtin "object.__class__")))
    (cn : PySem.W.specialIn K (.builtin "object.__class__") "__get__" = some (some (.builtin "getset_descriptor.__get__")))
    (ct : PySem.W.takesIn K (.builtin "object.__class__") = some true)
    (cm : PySem.W.mroIn K C (.type "object") = some true)
    (sf : PySem.W.selfFirst K C = true)
    (nf : PySem.W.notFirst K C (.ref C) = true)
    (ne : PySem.W.findIn K (.ref C) "__ne__" = some (some (.builtin "object.__ne__")))
    (mx : PySem.W.nsIn K mainGlobals "MAX_SIZE" = some (some (.int 300 tk)))
    (z_isinstance : PySem.W.nsIn K mainGlobals "isinstance" = some none)
    (z_int : PySem.W.nsIn K mainGlobals "int" = some none)
    (z_bool : PySem.W.nsIn K mainGlobals "bool" = some none)
    (z_dict : PySem.W.nsIn K mainGlobals "dict" = some none)
    (z_range : PySem.W.nsIn K mainGlobals "range" = some none)
    (z_enumerate : PySem.W.nsIn K mainGlobals "enumerate" = some none)
    (z_list : PySem.W.nsIn K mainGlobals "list" = some none)
    (z_len : PySem.W.nsIn K mainGlobals "len" = some none)
    (z_abs : PySem.W.nsIn K mainGlobals "abs" = some none)
    (z_all : PySem.W.nsIn K mainGlobals "all" = some none)
    (z_max : PySem.W.nsIn K mainGlobals "max" = some none)
    (z_min : PySem.W.nsIn K mainGlobals "min" = some none)
    : ∃ fd : FuncData, (∀ (s : Shared) (v : Value), BindsTo s fd ⟨[v], []⟩ [("_law_script", v)]) ∧ ∀ base : Heap, K.In base → base.Ns mainGlobals mg → FnOk lw.prog w K mg base CX0 9 fa fd ["_law_script"] (spLaw K) := by
  have e := hfa.symm.trans (PySem.W.mg_of X G a_law)
  cases e
  have T : Txt K mg ⟨C, f_isInt, f_inRange, f_checkSize, f_areArrows, f_common, f_rowFrom, f_moved, f_isPart, f_firstClash, f_hand, f_draw, f_lawArrows, f_products, f_parts, f_powers, fa, f_init, f_identity, f_empty, f_size, f_arrows, f_mul, f_inv, f_power, f_and, f_sub, f_or, f_le, f_lt, f_ge, f_eq, p_identity, p_empty, p_size, p_arrows, mc⟩ := {
    cl := ⟨pg, hd, po, sa⟩
    nS := nS
    nA := nA
    mke := ⟨mk, a_init, i_init, kc⟩
    mgC := PySem.W.mg_of X G aC
    mx := ⟨_, PySem.W.mg_of X G mx, ⟨_, rfl⟩⟩
    isinstance := PySem.W.mg_none_of X G z_isinstance
    int := PySem.W.mg_none_of X G z_int
    bool := PySem.W.mg_none_of X G z_bool
    dict := PySem.W.mg_none_of X G z_dict
    range := PySem.W.mg_none_of X G z_range
    enumerate := PySem.W.mg_none_of X G z_enumerate
    list := PySem.W.mg_none_of X G z_list
    len := PySem.W.mg_none_of X G z_len
    abs := PySem.W.mg_none_of X G z_abs
    all := PySem.W.mg_none_of X G z_all
    max := PySem.W.mg_none_of X G z_max
    min := PySem.W.mg_none_of X G z_min
    ca := ca
    cn := cn
    ct := ct
    cm := cm
    ik := if_pos (beq_self_eq_true _)
    sf := sf
    nf := nf
    ne := ne
    cr := ⟨rdC, gaC⟩
    isIntF := ⟨PySem.W.mg_of X G a_isInt, mkD l_isInt c_isInt k_isInt fun _ _ _ _ _ _ us hl => match us, hl with | [_], _ => rfl⟩
    inRangeF := ⟨PySem.W.mg_of X G a_inRange, mkD l_inRange c_inRange k_inRange fun _ _ _ _ _ _ us hl => match us, hl with | [_, _, _], _ => rfl⟩
    checkSizeF := ⟨PySem.W.mg_of X G a_checkSize, mkD l_checkSize c_checkSize k_checkSize fun _ _ _ _ _ _ us hl => match us, hl with | [_], _ => rfl⟩
    areArrowsF := ⟨PySem.W.mg_of X G a_areArrows, mkD l_areArrows c_areArrows k_areArrows fun _ _ _ _ _ _ us hl => match us, hl with | [_, _], _ => rfl⟩
    commonF := ⟨PySem.W.mg_of X G a_common, mkD l_common c_common k_common fun _ _ _ _ _ _ us hl => match us, hl with | [_, _], _ => rfl⟩
    rowFromF := ⟨PySem.W.mg_of X G a_rowFrom, mkD l_rowFrom c_rowFrom k_rowFrom fun _ _ _ _ _ _ us hl => match us, hl with | [_, _], _ => rfl⟩
    movedF := ⟨PySem.W.mg_of X G a_moved, mkD l_moved c_moved k_moved fun _ _ _ _ _ _ us hl => match us, hl with | [_, _], _ => rfl⟩
    isPartF := ⟨PySem.W.mg_of X G a_isPart, mkD l_isPart c_isPart k_isPart fun _ _ _ _ _ _ us hl => match us, hl with | [_, _], _ => rfl⟩
    firstClashF := ⟨PySem.W.mg_of X G a_firstClash, mkD l_firstClash c_firstClash k_firstClash fun _ _ _ _ _ _ us hl => match us, hl with | [_, _], _ => rfl⟩
    handF := ⟨PySem.W.mg_of X G a_hand, mkD l_hand c_hand k_hand fun _ _ _ _ _ _ us hl => match us, hl with | [_, _], _ => rfl⟩
    drawF := ⟨PySem.W.mg_of X G a_draw, mkD l_draw c_draw k_draw fun _ _ _ _ _ _ us hl => match us, hl with | [_, _], _ => rfl⟩
    lawArrowsF := ⟨PySem.W.mg_of X G a_lawArrows, mkD l_lawArrows c_lawArrows k_lawArrows fun _ _ _ _ _ _ us hl => match us, hl with | [_, _, _], _ => rfl⟩
    productsF := ⟨PySem.W.mg_of X G a_products, mkD l_products c_products k_products fun _ _ _ _ _ _ us hl => match us, hl with | [_, _, _], _ => rfl⟩
    partsF := ⟨PySem.W.mg_of X G a_parts, mkD l_parts c_parts k_parts fun _ _ _ _ _ _ us hl => match us, hl with | [_, _, _], _ => rfl⟩
    powersF := ⟨PySem.W.mg_of X G a_powers, mkD l_powers c_powers k_powers fun _ _ _ _ _ _ us hl => match us, hl with | [_, _], _ => rfl⟩
    initF := mkD l_init c_init k_init fun _ _ _ _ _ _ us hl => match us, hl with | [_, _, _], _ => rfl
    mulF := ⟨⟨a_mul, i_mul, k_mul⟩, mkD l_mul c_mul k_mul fun _ _ _ _ _ _ us hl => match us, hl with | [_, _], _ => rfl⟩
    invF := ⟨⟨a_inv, i_inv, k_inv⟩, mkD l_inv c_inv k_inv fun _ _ _ _ _ _ us hl => match us, hl with | [_], _ => rfl⟩
    powerF := ⟨⟨a_power, i_power, k_power⟩, mkD l_power c_power k_power fun _ _ _ _ _ _ us hl => match us, hl with | [_, _], _ => rfl⟩
    andF := ⟨⟨a_and, i_and, k_and⟩, mkD l_and c_and k_and fun _ _ _ _ _ _ us hl => match us, hl with | [_, _], _ => rfl⟩
    subF := ⟨⟨a_sub, i_sub, k_sub⟩, mkD l_sub c_sub k_sub fun _ _ _ _ _ _ us hl => match us, hl with | [_, _], _ => rfl⟩
    orF := ⟨⟨a_or, i_or, k_or⟩, mkD l_or c_or k_or fun _ _ _ _ _ _ us hl => match us, hl with | [_, _], _ => rfl⟩
    leF := ⟨⟨a_le, i_le, k_le⟩, mkD l_le c_le k_le fun _ _ _ _ _ _ us hl => match us, hl with | [_, _], _ => rfl⟩
    ltF := ⟨⟨a_lt, i_lt, k_lt⟩, mkD l_lt c_lt k_lt fun _ _ _ _ _ _ us hl => match us, hl with | [_, _], _ => rfl⟩
    geF := ⟨⟨a_ge, i_ge, k_ge⟩, mkD l_ge c_ge k_ge fun _ _ _ _ _ _ us hl => match us, hl with | [_, _], _ => rfl⟩
    eqF := ⟨⟨a_eq, i_eq, k_eq⟩, mkD l_eq c_eq k_eq fun _ _ _ _ _ _ us hl => match us, hl with | [_, _], _ => rfl⟩
    identityF := mkD l_identity c_identity k_identity fun _ _ _ _ _ _ us hl => match us, hl with | [_, _], _ => rfl
    identityC := ⟨a_identity, ⟨_, rc_identity⟩, fi_identity⟩
    emptyF := mkD l_empty c_empty k_empty fun _ _ _ _ _ _ us hl => match us, hl with | [_, _], _ => rfl
    emptyC := ⟨a_empty, ⟨_, rc_empty⟩, fi_empty⟩
    sizeF := mkD l_size c_size k_size fun _ _ _ _ _ _ us hl => match us, hl with | [_], _ => rfl
    sizeP := ⟨a_size, g_size, t_size, ⟨_, rc_size⟩⟩
    arrowsF := mkD l_arrows c_arrows k_arrows fun _ _ _ _ _ _ us hl => match us, hl with | [_], _ => rfl
    arrowsP := ⟨a_arrows, g_arrows, t_arrows, ⟨_, rc_arrows⟩⟩
  }
  exact ⟨PySem.W.fnOf "law" "law" (defArgs sLaw) (defBody sLaw) (defScope sLaw) .none kV_law dc_law pm_law an_law cd_law ct_law, fun s v => .of_eq rfl, fun base _ _ => ok_law (fun_mk (st := sLaw) l_law c_law k_law) T⟩
theorem walk {l : PySem.W.OpenLaw} {q : Program} {loose : List Str} {XP : (Str → Option Value) → Heap → Prop} {YP : World → Heap → Prop} {d : DefRec} {K : Params → PySem.W.Frag} (hn : l.most = some 63) (hdf : d.params.defaults = [])
    (hY : ∀ (w : World) (h : Heap), YP w h → (K w.params).In h)
    (F : ∀ (w : World) (mg : Str → Option Value) (fa : Addr) (h : Heap), (K w.params).In h → h.Ns mainGlobals mg → mg d.name = some (.ref fa) →
      ∃ fd : FuncData, (∀ (s : Shared) (u : Value), BindsTo s fd ⟨[u], []⟩ [("_law_script", u)]) ∧ ∀ base : Heap, (K w.params).In base → base.Ns mainGlobals mg → FnOk l.prog w (K w.params) mg base CX0 9 fa fd ["_law_script"] (spLaw (K w.params))) :
    PySem.W.WalkO q loose XP YP l.row.toRowW d [] (fun f vs => PySem.call f vs) :=
  L2.walk_of (n := 63) (k := 9) (x := "_law_script") (CX := fun _ => CX0) (sp := fun w => spLaw (K w.params)) hn (by decide) hdf ⟨rfl, by decide, by decide⟩ hY F (fun _ _ a ns hl _ hS => ⟨a, ns, rfl, hS, hl, fun _ => rfl⟩) fun _ _ _ _ _ z => z
end CR

open PySem PySem.W PyProof.Rows in
set_option maxRecDepth 100000 in
set_option maxHeartbeats 0 in
theorem PySem.Challenge.cw_chainmaps_k08_whole_rules_of_operators_holds : PySem.Challenge.rw_chainmaps_k08_whole_rules_of_operators.Holds := by
  w_on; o_law; k_head; (case hw => w_witness2)
  k_fill
  refine CR.walk (l := PySem.Challenge.rw_chainmaps_k08_whole_rules_of_operators) rfl rfl (fun w h Y => PySem.W.kIn_of Y) ?F
  case F =>
    intro w mg fa h KX G hmg
    refine' CR.all_mk KX G hmg ?aC ?a_isInt ?l_isInt ?c_isInt ?k_isInt ?a_inRange ?l_inRange ?c_inRange ?k_inRange ?a_checkSize ?l_checkSize ?c_checkSize ?k_checkSize ?a_areArrows ?l_areArrows ?c_areArrows ?k_areArrows ?a_common ?l_common ?c_common ?k_common ?a_rowFrom ?l_rowFrom ?c_rowFrom ?k_rowFrom ?a_moved ?l_moved ?c_moved ?k_moved ?a_isPart ?l_isPart ?c_isPart ?k_isPart ?a_firstClash ?l_firstClash ?c_firstClash ?k_firstClash ?a_hand ?l_hand ?c_hand ?k_hand ?a_draw ?l_draw ?c_draw ?k_draw ?a_lawArrows ?l_lawArrows ?c_lawArrows ?k_lawArrows ?a_products ?l_products ?c_products ?k_products ?a_parts ?l_parts ?c_parts ?k_parts ?a_powers ?l_powers ?c_powers ?k_powers ?a_law ?l_law ?c_law ?k_law ?a_init ?i_init ?l_init ?c_init ?k_init ?a_mul ?i_mul ?l_mul ?c_mul ?k_mul ?a_inv ?i_inv ?l_inv ?c_inv ?k_inv ?a_power ?i_power ?l_power ?c_power ?k_power ?a_and ?i_and ?l_and ?c_and ?k_and ?a_sub ?i_sub ?l_sub ?c_sub ?k_sub ?a_or ?i_or ?l_or ?c_or ?k_or ?a_le ?i_le ?l_le ?c_le ?k_le ?a_lt ?i_lt ?l_lt ?c_lt ?k_lt ?a_ge ?i_ge ?l_ge ?c_ge ?k_ge ?a_eq ?i_eq ?l_eq ?c_eq ?k_eq ?tyC ?rdC ?gaC ?a_identity ?rc_identity ?fi_identity ?l_identity ?c_identity ?k_identity ?a_empty ?rc_empty ?fi_empty ?l_empty ?c_empty ?k_empty ?a_size ?g_size ?t_size ?rc_size ?l_size ?c_size ?k_size ?a_arrows ?g_arrows ?t_arrows ?rc_arrows ?l_arrows ?c_arrows ?k_arrows ?pg ?hd ?po ?sa ?mk ?kc ?nS ?nA ?ca ?cn ?ct ?cm ?sf ?nf ?ne ?mx ?z_isinstance ?z_int ?z_bool ?z_dict ?z_range ?z_enumerate ?z_list ?z_len ?z_abs ?z_all ?z_max ?z_min
    (case aC => k_is)
    (case a_isInt => k_is)
    (case l_isInt => k_is)
    (case c_isInt => k_is)
    (case k_isInt => k_is)
    (case a_inRange => k_is)
    (case l_inRange => k_is)
    (case c_inRange => k_is)
    (case k_inRange => k_is)
    (case a_checkSize => k_is)
    (case l_checkSize => k_is)
    (case c_checkSize => k_is)
    (case k_checkSize => k_is)
    (case a_areArrows => k_is)
    (case l_areArrows => k_is)
    (case c_areArrows => k_is)
    (case k_areArrows => k_is)
    (case a_common => k_is)
    (case l_common => k_is)
    (case c_common => k_is)
    (case k_common => k_is)
    (case a_rowFrom => k_is)
    (case l_rowFrom => k_is)
    (case c_rowFrom => k_is)
    (case k_rowFrom => k_is)
    (case a_moved => k_is)
    (case l_moved => k_is)
    (case c_moved => k_is)
    (case k_moved => k_is)
    (case a_isPart => k_is)
    (case l_isPart => k_is)
    (case c_isPart => k_is)
    (case k_isPart => k_is)
    (case a_firstClash => k_is)
    (case l_firstClash => k_is)
    (case c_firstClash => k_is)
    (case k_firstClash => k_is)
    (case a_hand => k_is)
    (case l_hand => k_is)
    (case c_hand => k_is)
    (case k_hand => k_is)
    (case a_draw => k_is)
    (case l_draw => k_is)
    (case c_draw => k_is)
    (case k_draw => k_is)
    (case a_lawArrows => k_is)
    (case l_lawArrows => k_is)
    (case c_lawArrows => k_is)
    (case k_lawArrows => k_is)
    (case a_products => k_is)
    (case l_products => k_is)
    (case c_products => k_is)
    (case k_products => k_is)
    (case a_parts => k_is)
    (case l_parts => k_is)
    (case c_parts => k_is)
    (case k_parts => k_is)
    (case a_powers => k_is)
    (case l_powers => k_is)
    (case c_powers => k_is)
    (case k_powers => k_is)
    (case a_law => k_is)
    (case l_law => k_is)
    (case c_law => k_is)
    (case k_law => k_is)
    (case a_init => k_is)
    (case i_init => k_is)
    (case l_init => k_is)
    (case c_init => k_is)
    (case k_init => k_is)
    (case a_mul => k_is)
    (case i_mul => k_is)
    (case l_mul => k_is)
    (case c_mul => k_is)
    (case k_mul => k_is)
    (case a_inv => k_is)
    (case i_inv => k_is)
    (case l_inv => k_is)
    (case c_inv => k_is)
    (case k_inv => k_is)
    (case a_power => k_is)
    (case i_power => k_is)
    (case l_power => k_is)
    (case c_power => k_is)
    (case k_power => k_is)
    (case a_and => k_is)
    (case i_and => k_is)
    (case l_and => k_is)
    (case c_and => k_is)
    (case k_and => k_is)
    (case a_sub => k_is)
    (case i_sub => k_is)
    (case l_sub => k_is)
    (case c_sub => k_is)
    (case k_sub => k_is)
    (case a_or => k_is)
    (case i_or => k_is)
    (case l_or => k_is)
    (case c_or => k_is)
    (case k_or => k_is)
    (case a_le => k_is)
    (case i_le => k_is)
    (case l_le => k_is)
    (case c_le => k_is)
    (case k_le => k_is)
    (case a_lt => k_is)
    (case i_lt => k_is)
    (case l_lt => k_is)
    (case c_lt => k_is)
    (case k_lt => k_is)
    (case a_ge => k_is)
    (case i_ge => k_is)
    (case l_ge => k_is)
    (case c_ge => k_is)
    (case k_ge => k_is)
    (case a_eq => k_is)
    (case i_eq => k_is)
    (case l_eq => k_is)
    (case c_eq => k_is)
    (case k_eq => k_is)
    (case tyC => k_is)
    (case rdC => k_is)
    (case gaC => k_is)
    (case a_identity => k_is)
    (case rc_identity => k_is)
    (case fi_identity => k_is)
    (case l_identity => k_is)
    (case c_identity => k_is)
    (case k_identity => k_is)
    (case a_empty => k_is)
    (case rc_empty => k_is)
    (case fi_empty => k_is)
    (case l_empty => k_is)
    (case c_empty => k_is)
    (case k_empty => k_is)
    (case a_size => k_is)
    (case g_size => k_is)
    (case t_size => k_is)
    (case rc_size => k_is)
    (case l_size => k_is)
    (case c_size => k_is)
    (case k_size => k_is)
    (case a_arrows => k_is)
    (case g_arrows => k_is)
    (case t_arrows => k_is)
    (case rc_arrows => k_is)
    (case l_arrows => k_is)
    (case c_arrows => k_is)
    (case k_arrows => k_is)
    (case pg => k_is)
    (case hd => k_is)
    (case po => k_is)
    (case sa => k_is)
    (case mk => k_is)
    (case kc => k_is)
    (case nS => k_is)
    (case nA => k_is)
    (case ca => k_is)
    (case cn => k_is)
    (case ct => k_is)
    (case cm => k_is)
    (case sf => k_is)
    (case nf => k_is)
    (case ne => k_is)
    (case mx => k_is)
    (case z_isinstance => k_is)
    (case z_int => k_is)
    (case z_bool => k_is)
    (case z_dict => k_is)
    (case z_range => k_is)
    (case z_enumerate => k_is)
    (case z_list => k_is)
    (case z_len => k_is)
    (case z_abs => k_is)
    (case z_all => k_is)
    (case z_max => k_is)
    (case z_min => k_is)

