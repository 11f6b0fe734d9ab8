import PyProof.Rows.All
import Wide.All
import OpenK.AllK
import Wide.FinOn
import HandS.ForMost
import HandS.Exc
import HandS.ExcOwn
import HandS.WordsExc
import HandS.WideBits
import HandS.Defaults
import HandS.IsInst
import HandS.Style
import HandS.More
import HandS.ClsMeth
import PySem.Challenge.RW_huefall_k14_whole_swaps
import HandS.Deep
import HandS.Walk
import KE.GoesEnum
import KE.KExcSuper
import HandS.ExcInit
import HandS.SortRule
import KE.KDictDisplayH
import KE.DatumOrd
import KE.KExcIs
import HandS.ExcField
import HandS.ExcIs
set_option Elab.async false
set_option maxRecDepth 100000
set_option linter.all false
section
set_option autoImplicit false
/-! Runs and their swaps, in plain Lean. -/
namespace Hue

/-- B v w: lamp w is beneath lamp v -/
abbrev Bel := Nat → Nat → Bool

def apart (B : Bel) (x y : Nat) : Bool := !(x == y) && (!(B x y) && !(B y x))
theorem apart_iff {B : Bel} {x y : Nat} : apart B x y = true ↔ x ≠ y ∧ B x y = false ∧ B y x = false := by
  simp [apart]
theorem apart_symm {B : Bel} {x y : Nat} (h : apart B x y = true) : apart B y x = true := by
  rw [apart_iff] at h ⊢
  exact ⟨Ne.symm h.1, h.2.2, h.2.1⟩
theorem apart_self (B : Bel) (x : Nat) : apart B x x = false := by simp [apart]

/-- one swap of two neighbours -/
inductive Sw (B : Bel) : List Nat → List Nat → Prop where
  | mk (p : List Nat) (a b : Nat) (s : List Nat) (h : apart B a b = true) : Sw B (p ++ a :: b :: s) (p ++ b :: a :: s)
theorem Sw.symm {B : Bel} {l m : List Nat} (h : Sw B l m) : Sw B m l := by
  cases h with
  | mk p a b s h => exact .mk p b a s (apart_symm h)
theorem Sw.cons {B : Bel} {l m : List Nat} (x : Nat) (h : Sw B l m) : Sw B (x :: l) (x :: m) := by
  cases h with
  | mk p a b s h => exact .mk (x :: p) a b s h

/-- at most k swaps -/
def Near (B : Bel) : Nat → List Nat → List Nat → Prop
  | 0, l, m => l = m
  | k + 1, l, m => Near B k l m ∨ ∃ z, Near B k l z ∧ Sw B z m
theorem Near.refl {B : Bel} (k : Nat) (l : List Nat) : Near B k l l := by
  induction k with
  | zero => rfl
  | succ k ih => exact .inl ih
theorem Near.mono {B : Bel} {k j : Nat} {l m : List Nat} (h : Near B k l m) (hj : k ≤ j) : Near B j l m := by
  induction hj with
  | refl => exact h
  | step _ ih => exact .inl ih
theorem Near.trans {B : Bel} {i j : Nat} {l m n : List Nat} (h : Near B i l m) (h' : Near B j m n) : Near B (i + j) l n := by
  induction j generalizing n with
  | zero =>
    have e : m = n := h'
    subst e
    exact h
  | succ j ih =>
    rcases h' with h' | ⟨z, h', hs⟩
    · exact .inl (ih h')
    · exact .inr ⟨z, ih h', hs⟩
theorem Near.one {B : Bel} {l m : List Nat} (h : Sw B l m) : Near B 1 l m := .inr ⟨l, rfl, h⟩
theorem Near.cons {B : Bel} {k : Nat} {l m : List Nat} (x : Nat) (h : Near B k l m) : Near B k (x :: l) (x :: m) := by
  induction k generalizing m with
  | zero =>
    have e : l = m := h
    subst e
    rfl
  | succ k ih =>
    rcases h with h | ⟨z, h, hs⟩
    · exact .inl (ih h)
    · exact .inr ⟨x :: z, ih h, hs.cons x⟩

/-- what is left of a run when all moves but those at x and y are removed -/
def kp (x y : Nat) (l : List Nat) : List Nat := l.filter fun z => z == x || z == y
def Agree (B : Bel) (l m : List Nat) : Prop := ∀ x y, apart B x y = false → kp x y l = kp x y m
theorem Agree.refl (B : Bel) (l : List Nat) : Agree B l l := fun _ _ _ => rfl
theorem Agree.symm {B : Bel} {l m : List Nat} (h : Agree B l m) : Agree B m l := fun x y e => (h x y e).symm
theorem Agree.trans {B : Bel} {l m n : List Nat} (h : Agree B l m) (h' : Agree B m n) : Agree B l n := fun x y e => (h x y e).trans (h' x y e)
theorem kp_append (x y : Nat) (l m : List Nat) : kp x y (l ++ m) = kp x y l ++ kp x y m := by simp [kp]
theorem kp_cons (x y a : Nat) (l : List Nat) : kp x y (a :: l) = if a == x || a == y then a :: kp x y l else kp x y l := by
  unfold kp
  rw [List.filter_cons]
theorem Agree.cons {B : Bel} {l m : List Nat} (a : Nat) (h : Agree B l m) : Agree B (a :: l) (a :: m) := fun x y e => by
  rw [kp_cons, kp_cons, h x y e]
theorem Agree.of_cons {B : Bel} {l m : List Nat} {a : Nat} (h : Agree B (a :: l) (a :: m)) : Agree B l m := fun x y e => by
  have q := h x y e
  rw [kp_cons, kp_cons] at q
  split at q
  · exact (List.cons.inj q).2
  · exact q
theorem Agree.swap (B : Bel) (p : List Nat) (a b : Nat) (s : List Nat) (h : apart B a b = true) : Agree B (p ++ a :: b :: s) (p ++ b :: a :: s) := fun x y e => by
  rw [kp_append, kp_append]
  congr 1
  rw [kp_cons, kp_cons, kp_cons, kp_cons]
  by_cases ha : (a == x || a == y) = true
  · by_cases hb : (b == x || b == y) = true
    · exfalso
      have hab : a ≠ b := (apart_iff.mp h).1
      rw [Bool.or_eq_true, beq_iff_eq, beq_iff_eq] at ha hb
      rcases ha with rfl | rfl
      · rcases hb with rfl | rfl
        · exact hab rfl
        · rw [h] at e
          cases e
      · rcases hb with rfl | rfl
        · rw [apart_symm h] at e
          cases e
        · exact hab rfl
    · rw [if_pos ha, if_neg hb, if_neg hb, if_pos ha]
  · rw [if_neg ha, if_neg ha]
theorem Sw.agree {B : Bel} {l m : List Nat} (h : Sw B l m) : Agree B l m := by
  cases h with
  | mk p a b s h => exact Agree.swap B p a b s h
theorem Near.agree {B : Bel} {k : Nat} {l m : List Nat} (h : Near B k l m) : Agree B l m := by
  induction k generalizing m with
  | zero =>
    have e : l = m := h
    subst e
    exact .refl B l
  | succ k ih =>
    rcases h with h | ⟨z, h, hs⟩
    · exact ih h
    · exact (ih h).trans hs.agree

theorem kp_self (x : Nat) (l : List Nat) : kp x x l = List.replicate (l.count x) x := by
  unfold kp
  have e : (fun z => z == x || z == x) = fun z => z == x := by
    funext z
    rw [Bool.or_self]
  rw [e, List.filter_beq]
theorem Agree.count {B : Bel} {l m : List Nat} (h : Agree B l m) (x : Nat) : l.count x = m.count x := by
  have q := h x x (apart_self B x)
  rw [kp_self, kp_self] at q
  have q' := congrArg List.length q
  rwa [List.length_replicate, List.length_replicate] at q'
theorem Agree.perm {B : Bel} {l m : List Nat} (h : Agree B l m) : l.Perm m := List.perm_iff_count.mpr fun x => h.count x
theorem Agree.length {B : Bel} {l m : List Nat} (h : Agree B l m) : l.length = m.length := h.perm.length_eq
theorem Agree.mem {B : Bel} {l m : List Nat} (h : Agree B l m) (x : Nat) : x ∈ l ↔ x ∈ m := h.perm.mem_iff

/-- the first occurrence -/
theorem split_first {x : Nat} : ∀ {l : List Nat}, x ∈ l → ∃ p s, l = p ++ x :: s ∧ x ∉ p
  | a :: r, h => by
    by_cases e : a = x
    · subst e
      exact ⟨[], r, rfl, by simp⟩
    · have h' : x ∈ r := by
        rcases List.mem_cons.mp h with q | q
        · exact absurd q.symm e
        · exact q
      obtain ⟨p, s, e1, e2⟩ := split_first h'
      refine ⟨a :: p, s, by rw [e1]; rfl, fun q => ?_⟩
      rcases List.mem_cons.mp q with q | q
      · exact e q.symm
      · exact e2 q

theorem kp_head {x y : Nat} {p s : List Nat} {a : Nat} (ha : a ∈ p) (he : a = x ∨ a = y) : ∃ b r, kp x y (p ++ s) = b :: r ∧ b ∈ p ∧ (b = x ∨ b = y) := by
  induction p with
  | nil => cases ha
  | cons c p ih =>
    rw [List.cons_append, kp_cons]
    by_cases hc : (c == x || c == y) = true
    · rw [if_pos hc]
      refine ⟨c, _, rfl, List.mem_cons_self, ?_⟩
      rwa [Bool.or_eq_true, beq_iff_eq, beq_iff_eq] at hc
    · rw [if_neg hc]
      rcases List.mem_cons.mp ha with rfl | ha
      · exfalso
        apply hc
        rw [Bool.or_eq_true, beq_iff_eq, beq_iff_eq]
        exact he
      · obtain ⟨b, r, e1, e2, e3⟩ := ih ha
        exact ⟨b, r, e1, List.mem_cons_of_mem _ e2, e3⟩

theorem move_agree {B : Bel} {x : Nat} : ∀ {p : List Nat} (s : List Nat), (∀ a ∈ p, apart B a x = true) → Near B p.length (p ++ x :: s) (x :: (p ++ s))
  | [], s, _ => rfl
  | a :: p, s, h => by
    have h1 := move_agree s fun b hb => h b (List.mem_cons_of_mem _ hb)
    have h2 : Sw B (a :: x :: (p ++ s)) (x :: a :: (p ++ s)) := .mk [] a x (p ++ s) (h a List.mem_cons_self)
    exact .inr ⟨a :: x :: (p ++ s), h1.cons a, h2⟩

/-- a run that agrees with x :: m has x in front of all that x hangs on -/
theorem front {B : Bel} {l m : List Nat} {x : Nat} (h : Agree B l (x :: m)) : ∃ p s, l = p ++ x :: s ∧ (∀ a ∈ p, apart B a x = true) ∧ Agree B (p ++ s) m := by
  have hx : x ∈ l := (h.mem x).mpr List.mem_cons_self
  obtain ⟨p, s, rfl, hp⟩ := split_first hx
  have hap : ∀ a ∈ p, apart B a x = true := by
    intro a ha
    cases e : apart B a x with
    | true => rfl
    | false =>
      exfalso
      have q := h a x e
      obtain ⟨b, r, e1, e2, e3⟩ := kp_head (x := a) (y := x) (s := x :: s) ha (.inl rfl)
      rw [e1, kp_cons, if_pos (by simp)] at q
      have e4 := (List.cons.inj q).1
      rw [e4] at e2
      exact hp e2
  refine ⟨p, s, rfl, hap, ?_⟩
  exact ((move_agree s hap).agree.symm.trans h).of_cons

def tri : Nat → Nat
  | 0 => 0
  | n + 1 => n + tri n
theorem agree_near {B : Bel} : ∀ {m l : List Nat}, Agree B l m → Near B (tri m.length) l m
  | [], l, h => by
    have e := h.length
    have e' : l = [] := List.length_eq_zero_iff.mp e
    subst e'
    rfl
  | x :: m, l, h => by
    have hl := h.length
    obtain ⟨p, s, rfl, hp, h'⟩ := front h
    have h1 := move_agree s hp
    have h2 := (agree_near h').cons x
    have h3 := h1.trans h2
    refine h3.mono ?_
    rw [List.length_append, List.length_cons, List.length_cons] at hl
    show p.length + tri m.length ≤ m.length + tri m.length
    omega

/-! ### the sorted form -/
def ready (B : Bel) : List Nat → Nat → Bool
  | [], _ => false
  | a :: r, x => a == x || (apart B a x && ready B r x)
theorem ready_iff {B : Bel} {x : Nat} : ∀ {l : List Nat}, ready B l x = true ↔ ∃ p s, l = p ++ x :: s ∧ ∀ a ∈ p, apart B a x = true
  | [] => by
    constructor
    · intro h
      cases h
    · rintro ⟨p, s, e, _⟩
      cases p <;> cases e
  | a :: r => by
    show (a == x || (apart B a x && ready B r x)) = true ↔ _
    rw [Bool.or_eq_true, Bool.and_eq_true, beq_iff_eq, ready_iff (l := r)]
    constructor
    · rintro (rfl | ⟨h1, p, s, rfl, h2⟩)
      · exact ⟨[], r, rfl, by simp⟩
      · refine ⟨a :: p, s, rfl, fun b hb => ?_⟩
        rcases List.mem_cons.mp hb with rfl | hb
        · exact h1
        · exact h2 b hb
    · rintro ⟨p, s, e, h⟩
      cases p with
      | nil =>
        left
        exact (List.cons.inj e).1
      | cons b p =>
        obtain ⟨rfl, e2⟩ := List.cons.inj e
        right
        exact ⟨h a List.mem_cons_self, p, s, e2, fun c hc => h c (List.mem_cons_of_mem _ hc)⟩
theorem erase_split {B : Bel} {x : Nat} {p s : List Nat} (h : ∀ a ∈ p, apart B a x = true) : (p ++ x :: s).erase x = p ++ s := by
  have hx : x ∉ p := fun q => by
    have := h x q
    rw [apart_self] at this
    cases this
  rw [List.erase_append_right _ hx, List.erase_cons_head]
theorem ready_agree {B : Bel} {l : List Nat} {x : Nat} (h : ready B l x = true) : Agree B l (x :: l.erase x) := by
  obtain ⟨p, s, rfl, hp⟩ := ready_iff.mp h
  rw [erase_split hp]
  exact (move_agree s hp).agree
theorem agree_ready {B : Bel} {l m : List Nat} {x : Nat} (h : Agree B l (x :: m)) : ready B l x = true ∧ Agree B (l.erase x) m := by
  obtain ⟨p, s, rfl, hp, h'⟩ := front h
  exact ⟨ready_iff.mpr ⟨p, s, rfl, hp⟩, by rw [erase_split hp]; exact h'⟩
theorem ready_congr {B : Bel} {l m : List Nat} (h : Agree B l m) (x : Nat) : ready B l x = ready B m x := by
  rw [Bool.eq_iff_iff]
  constructor
  · intro q
    exact (agree_ready (h.symm.trans (ready_agree q))).1
  · intro q
    exact (agree_ready (h.trans (ready_agree q))).1
theorem erase_congr {B : Bel} {l m : List Nat} (h : Agree B l m) {x : Nat} (q : ready B m x = true) : Agree B (l.erase x) (m.erase x) :=
  (agree_ready (h.trans (ready_agree q))).2

def nxt (B : Bel) (n : Nat) (l : List Nat) : Option Nat := (List.range n).find? (ready B l)
def sfN (B : Bel) (n : Nat) : Nat → List Nat → List Nat
  | 0, _ => []
  | k + 1, l => match nxt B n l with
    | none => []
    | some x => x :: sfN B n k (l.erase x)
def sf (B : Bel) (n : Nat) (l : List Nat) : List Nat := sfN B n l.length l

theorem find_range {n : Nat} {f : Nat → Bool} {x : Nat} : (List.range n).find? f = some x ↔ f x = true ∧ x < n ∧ ∀ y, y < x → f y = false := by
  rw [List.find?_range_eq_some]
  simp
theorem nxt_some {B : Bel} {n : Nat} {l : List Nat} {x : Nat} : nxt B n l = some x ↔ ready B l x = true ∧ x < n ∧ ∀ y, y < x → ready B l y = false := find_range
theorem nxt_ex {B : Bel} {n : Nat} {l : List Nat} (hl : ∀ x ∈ l, x < n) (h : l ≠ []) : ∃ x, nxt B n l = some x := by
  cases l with
  | nil => exact absurd rfl h
  | cons a r =>
    cases e : nxt B n (a :: r) with
    | some x => exact ⟨x, rfl⟩
    | none =>
      exfalso
      have q := List.find?_eq_none.mp e a (List.mem_range.mpr (hl a List.mem_cons_self))
      apply q
      show (a == a || _) = true
      rw [beq_self_eq_true, Bool.true_or]
theorem ready_mem {B : Bel} {l : List Nat} {x : Nat} (h : ready B l x = true) : x ∈ l := by
  obtain ⟨p, s, rfl, _⟩ := ready_iff.mp h
  simp
theorem erase_len {l : List Nat} {x : Nat} (h : x ∈ l) : (l.erase x).length + 1 = l.length := by
  rw [List.length_erase_of_mem h]
  have := List.length_pos_of_mem h
  omega
theorem sf_agreeN {B : Bel} {n : Nat} : ∀ {k : Nat} {l : List Nat}, l.length = k → (∀ x ∈ l, x < n) → Agree B l (sfN B n k l)
  | 0, l, e, _ => by
    have e' : l = [] := List.length_eq_zero_iff.mp e
    subst e'
    exact .refl B []
  | k + 1, l, e, hl => by
    have hne : l ≠ [] := by
      intro q
      rw [q] at e
      cases e
    obtain ⟨x, hx⟩ := nxt_ex (B := B) hl hne
    have hr := (nxt_some.mp hx).1
    have e1 : (l.erase x).length = k := by
      have := erase_len (ready_mem hr)
      omega
    have ih := sf_agreeN (B := B) (n := n) e1 fun y hy => hl y (List.mem_of_mem_erase hy)
    have q : sfN B n (k + 1) l = x :: sfN B n k (l.erase x) := by
      show (match nxt B n l with | none => [] | some x => x :: sfN B n k (l.erase x)) = _
      rw [hx]
    rw [q]
    exact (ready_agree hr).trans (ih.cons x)
theorem sf_agree {B : Bel} {n : Nat} {l : List Nat} (hl : ∀ x ∈ l, x < n) : Agree B l (sf B n l) := sf_agreeN rfl hl
theorem sfN_congr {B : Bel} {n : Nat} : ∀ {k : Nat} {l m : List Nat}, Agree B l m → sfN B n k l = sfN B n k m
  | 0, _, _, _ => rfl
  | k + 1, l, m, h => by
    have e : nxt B n l = nxt B n m := by
      unfold nxt
      congr 1
      funext x
      exact ready_congr h x
    show (match nxt B n l with | none => [] | some x => x :: sfN B n k (l.erase x)) = (match nxt B n m with | none => [] | some x => x :: sfN B n k (m.erase x))
    rw [e]
    cases q : nxt B n m with
    | none => rfl
    | some x =>
      show x :: _ = x :: _
      rw [sfN_congr (erase_congr h (nxt_some.mp q).1)]
theorem sf_congr {B : Bel} {n : Nat} {l m : List Nat} (h : Agree B l m) : sf B n l = sf B n m := by
  unfold sf
  rw [h.length]
  exact sfN_congr h
theorem sf_idem {B : Bel} {n : Nat} {l : List Nat} (hl : ∀ x ∈ l, x < n) : sf B n (sf B n l) = sf B n l := (sf_congr (sf_agree hl)).symm
theorem sf_iff {B : Bel} {n : Nat} {l m : List Nat} (hl : ∀ x ∈ l, x < n) (hm : ∀ x ∈ m, x < n) : sf B n l = sf B n m ↔ Agree B l m :=
  ⟨fun h => (sf_agree hl).trans (by rw [h]; exact (sf_agree hm).symm), sf_congr⟩
theorem sf_lt {B : Bel} {n : Nat} {l : List Nat} (hl : ∀ x ∈ l, x < n) : ∀ x ∈ sf B n l, x < n := fun x hx => hl x (((sf_agree hl).mem x).mpr hx)
theorem sf_length {B : Bel} {n : Nat} {l : List Nat} (hl : ∀ x ∈ l, x < n) : (sf B n l).length = l.length := (sf_agree hl).length.symm

/-- the order of lists -/
def llt : List Nat → List Nat → Bool
  | [], [] => false
  | [], _ :: _ => true
  | _ :: _, [] => false
  | x :: xs, y :: ys => if x = y then llt xs ys else decide (x < y)
theorem llt_total : ∀ {l m : List Nat}, llt l m = false → llt m l = false → l = m
  | [], [], _, _ => rfl
  | [], _ :: _, h, _ => by cases h
  | _ :: _, [], _, h => by cases h
  | x :: xs, y :: ys, h1, h2 => by
    unfold llt at h1 h2
    by_cases e : x = y
    · subst e
      rw [if_pos rfl] at h1 h2
      rw [llt_total h1 h2]
    · rw [if_neg e] at h1
      rw [if_neg (Ne.symm e)] at h2
      have := of_decide_eq_false h1
      have := of_decide_eq_false h2
      omega
theorem sfN_le {B : Bel} {n : Nat} : ∀ {k : Nat} {l m : List Nat}, l.length = k → (∀ x ∈ l, x < n) → Agree B l m → llt m (sfN B n k l) = false
  | 0, l, m, e, _, h => by
    have e' : m = [] := List.length_eq_zero_iff.mp (h.length.symm.trans e)
    subst e'
    rfl
  | k + 1, l, m, e, hl, h => by
    have hne : l ≠ [] := by
      intro q
      rw [q] at e
      cases e
    obtain ⟨x, hx⟩ := nxt_ex (B := B) hl hne
    obtain ⟨hr, hxn, hmin⟩ := nxt_some.mp hx
    have e1 : (l.erase x).length = k := by
      have := erase_len (ready_mem hr)
      omega
    have q : sfN B n (k + 1) l = x :: sfN B n k (l.erase x) := by
      show (match nxt B n l with | none => [] | some x => x :: sfN B n k (l.erase x)) = _
      rw [hx]
    rw [q]
    cases m with
    | nil =>
      have := h.length
      rw [e] at this
      cases this
    | cons y m =>
      obtain ⟨hy, ha⟩ := agree_ready h
      unfold llt
      by_cases exy : y = x
      · subst exy
        rw [if_pos rfl]
        exact sfN_le e1 (fun z hz => hl z (List.mem_of_mem_erase hz)) ha
      · rw [if_neg exy]
        refine decide_eq_false fun hlt => ?_
        have := hmin y hlt
        rw [hy] at this
        cases this
theorem sf_le {B : Bel} {n : Nat} {l m : List Nat} (hl : ∀ x ∈ l, x < n) (h : Agree B l m) : llt m (sf B n l) = false := sfN_le rfl hl h
/-- the least of all swaps -/
theorem sf_least {B : Bel} {n : Nat} {l t : List Nat} (hl : ∀ x ∈ l, x < n) (ht : Agree B l t) (hmin : ∀ m, Agree B l m → llt m t = false) : t = sf B n l :=
  llt_total (sf_le hl ht) (hmin _ (sf_agree hl))

/-! ### all swaps, by going from list to list -/
def swapAt (k : Nat) (l : List Nat) : List Nat := l.take k ++ (l.getD (k + 1) 0 :: l.getD k 0 :: l.drop (k + 2))
def nbrs (B : Bel) (l : List Nat) : List (List Nat) := ((List.range (l.length - 1)).filter fun k => apart B (l.getD k 0) (l.getD (k + 1) 0)).map fun k => swapAt k l
theorem split_at {l : List Nat} {k : Nat} (h : k + 1 < l.length) : l = l.take k ++ (l.getD k 0 :: l.getD (k + 1) 0 :: l.drop (k + 2)) := by
  have h1 : l.drop k = l.getD k 0 :: l.drop (k + 1) := by
    rw [List.drop_eq_getElem_cons (by omega : k < l.length)]
    simp [List.getD_eq_getElem?_getD, List.getElem?_eq_getElem (by omega : k < l.length)]
  have h2 : l.drop (k + 1) = l.getD (k + 1) 0 :: l.drop (k + 2) := by
    rw [List.drop_eq_getElem_cons (by omega : k + 1 < l.length)]
    simp [List.getD_eq_getElem?_getD, List.getElem?_eq_getElem (by omega : k + 1 < l.length)]
  rw [← h2, ← h1, List.take_append_drop]
theorem getD_mid (p : List Nat) (a : Nat) (s : List Nat) : (p ++ a :: s).getD p.length 0 = a := by
  simp [List.getD_eq_getElem?_getD]
theorem getD_mid1 (p : List Nat) (a b : Nat) (s : List Nat) : (p ++ a :: b :: s).getD (p.length + 1) 0 = b := by
  simp [List.getD_eq_getElem?_getD]
theorem swapAt_mid (p : List Nat) (a b : Nat) (s : List Nat) : swapAt p.length (p ++ a :: b :: s) = p ++ b :: a :: s := by
  unfold swapAt
  rw [getD_mid, getD_mid1, List.take_left' rfl]
  · congr 3
    have : p.length + 2 = (p ++ [a, b]).length := by simp
    rw [this]
    have e : p ++ a :: b :: s = (p ++ [a, b]) ++ s := by simp
    rw [e, List.drop_left]
theorem mem_nbrs {B : Bel} {l m : List Nat} : m ∈ nbrs B l ↔ Sw B l m := by
  unfold nbrs
  rw [List.mem_map]
  constructor
  · rintro ⟨k, hk, rfl⟩
    obtain ⟨h1, h2⟩ := List.mem_filter.mp hk
    have h1' := List.mem_range.mp h1
    have h3 : k + 1 < l.length := by omega
    have e := split_at h3
    have q : Sw B (l.take k ++ (l.getD k 0 :: l.getD (k + 1) 0 :: l.drop (k + 2))) (swapAt k l) := .mk _ _ _ _ h2
    rw [← e] at q
    exact q
  · rintro ⟨p, a, b, s, h⟩
    refine ⟨p.length, List.mem_filter.mpr ⟨List.mem_range.mpr ?_, ?_⟩, swapAt_mid p a b s⟩
    · simp
    · show apart B ((p ++ a :: b :: s).getD p.length 0) ((p ++ a :: b :: s).getD (p.length + 1) 0) = true
      rw [getD_mid, getD_mid1]
      exact h
theorem nbrs_length (B : Bel) (l : List Nat) : (nbrs B l).length ≤ l.length - 1 := by
  unfold nbrs
  rw [List.length_map]
  have := List.length_filter_le (fun k => apart B (l.getD k 0) (l.getD (k + 1) 0)) (List.range (l.length - 1))
  rwa [List.length_range] at this

abbrev Runs := List (List Nat)
def add1 (st : Runs × Runs) (o : List Nat) : Runs × Runs := if st.1.contains o then st else (st.1 ++ [o], st.2 ++ [o])
def addRow (B : Bel) (st : Runs × Runs) (row : List Nat) : Runs × Runs := (nbrs B row).foldl add1 st
/-- one round: the rows, what is seen -/
def turn (B : Bel) (st : Runs × Runs) : Runs × Runs := st.2.foldl (addRow B) (st.1, [])
def turns (B : Bel) : Nat → Runs × Runs → Runs × Runs
  | 0, st => st
  | k + 1, st => turn B (turns B k st)
def swapsOf (B : Bel) (l : List Nat) : Runs := (turns B 11 ([l], [l])).1

theorem add1_fst {st : Runs × Runs} {o m : List Nat} : m ∈ (add1 st o).1 ↔ m ∈ st.1 ∨ m = o := by
  unfold add1
  by_cases h : st.1.contains o = true
  · rw [if_pos h]
    constructor
    · exact .inl
    · rintro (q | rfl)
      · exact q
      · exact List.contains_iff_mem.mp h
  · rw [if_neg h]
    simp
theorem foldl_add1 {os : Runs} {m : List Nat} : ∀ {st : Runs × Runs}, m ∈ (os.foldl add1 st).1 ↔ m ∈ st.1 ∨ m ∈ os := by
  induction os with
  | nil => simp
  | cons o os ih =>
    intro st
    rw [List.foldl_cons, ih, add1_fst, List.mem_cons, or_assoc]
theorem foldl_addRow {B : Bel} {rows : Runs} {m : List Nat} : ∀ {st : Runs × Runs}, m ∈ (rows.foldl (addRow B) st).1 ↔ m ∈ st.1 ∨ ∃ r ∈ rows, Sw B r m := by
  induction rows with
  | nil => simp
  | cons r rows ih =>
    intro st
    rw [List.foldl_cons, ih]
    unfold addRow
    rw [foldl_add1, mem_nbrs]
    simp [or_assoc]
/-- what is new goes into the rows -/
theorem add1_new {st : Runs × Runs} {s0 : Runs} {o m : List Nat} (h : ∀ m, m ∈ st.1 → m ∈ s0 ∨ m ∈ st.2) (q : m ∈ (add1 st o).1) : m ∈ s0 ∨ m ∈ (add1 st o).2 := by
  unfold add1 at q ⊢
  by_cases e : st.1.contains o = true
  · rw [if_pos e] at q ⊢
    exact h m q
  · rw [if_neg e] at q ⊢
    rcases List.mem_append.mp q with q | q
    · rcases h m q with z | z
      · exact .inl z
      · exact .inr (List.mem_append_left _ z)
    · exact .inr (List.mem_append_right _ q)
theorem foldl_add1_new {os s0 : Runs} {m : List Nat} : ∀ {st : Runs × Runs}, (∀ m, m ∈ st.1 → m ∈ s0 ∨ m ∈ st.2) → m ∈ (os.foldl add1 st).1 → m ∈ s0 ∨ m ∈ (os.foldl add1 st).2 := by
  induction os with
  | nil => exact fun h q => h m q
  | cons o os ih => exact fun h q => ih (fun m' q' => add1_new h q') q
theorem foldl_addRow_new {B : Bel} {rows s0 : Runs} {m : List Nat} : ∀ {st : Runs × Runs}, (∀ m, m ∈ st.1 → m ∈ s0 ∨ m ∈ st.2) → m ∈ (rows.foldl (addRow B) st).1 → m ∈ s0 ∨ m ∈ (rows.foldl (addRow B) st).2 := by
  induction rows with
  | nil => exact fun h q => h m q
  | cons r rows ih => exact fun h q => ih (fun m' q' => foldl_add1_new h q') q
theorem turn_fst {B : Bel} {st : Runs × Runs} {m : List Nat} : m ∈ (turn B st).1 ↔ m ∈ st.1 ∨ ∃ r ∈ st.2, Sw B r m := foldl_addRow
theorem turn_new {B : Bel} {st : Runs × Runs} {m : List Nat} (q : m ∈ (turn B st).1) : m ∈ st.1 ∨ m ∈ (turn B st).2 :=
  foldl_addRow_new (s0 := st.1) (fun _ z => .inl z) q

structure Bfs (B : Bel) (l : List Nat) (k : Nat) (st : Runs × Runs) : Prop where
  ag : ∀ m ∈ st.1, Agree B l m
  all : ∀ m, Near B k l m → m ∈ st.1
  cl : ∀ m ∈ st.1, m ∈ st.2 ∨ ∀ z, Sw B m z → z ∈ st.1
  sub : ∀ m ∈ st.2, Agree B l m
theorem add1_sub {P : List Nat → Prop} {st : Runs × Runs} {o : List Nat} (h : ∀ m ∈ st.2, P m) (ho : P o) : ∀ m ∈ (add1 st o).2, P m := by
  unfold add1
  by_cases e : st.1.contains o = true
  · rw [if_pos e]
    exact h
  · rw [if_neg e]
    intro m q
    rcases List.mem_append.mp q with q | q
    · exact h m q
    · rw [List.mem_singleton.mp q]
      exact ho
theorem foldl_add1_sub {P : List Nat → Prop} {os : Runs} : ∀ {st : Runs × Runs}, (∀ m ∈ st.2, P m) → (∀ o ∈ os, P o) → ∀ m ∈ (os.foldl add1 st).2, P m := by
  induction os with
  | nil => exact fun h _ => h
  | cons o os ih => exact fun h ho => ih (add1_sub h (ho o List.mem_cons_self)) fun o' h' => ho o' (List.mem_cons_of_mem _ h')
theorem foldl_addRow_sub {B : Bel} {P : List Nat → Prop} {rows : Runs} : ∀ {st : Runs × Runs}, (∀ m ∈ st.2, P m) → (∀ r ∈ rows, ∀ z, Sw B r z → P z) → ∀ m ∈ (rows.foldl (addRow B) st).2, P m := by
  induction rows with
  | nil => exact fun h _ => h
  | cons r rows ih => exact fun h ho => ih (foldl_add1_sub h fun o q => ho r List.mem_cons_self o (mem_nbrs.mp q)) fun r' h' => ho r' (List.mem_cons_of_mem _ h')
theorem bfs_turns (B : Bel) (l : List Nat) : ∀ k, Bfs B l k (turns B k ([l], [l]))
  | 0 => by
    refine ⟨fun m h => ?_, fun m h => ?_, fun m h => .inl h, fun m h => ?_⟩
    · rw [List.mem_singleton.mp h]
      exact .refl B l
    · have e : l = m := h
      rw [← e]
      exact List.mem_singleton.mpr rfl
    · rw [List.mem_singleton.mp h]
      exact .refl B l
  | k + 1 => by
    have I := bfs_turns B l k
    show Bfs B l (k + 1) (turn B (turns B k ([l], [l])))
    have nbr : ∀ m ∈ (turns B k ([l], [l])).1, ∀ z, Sw B m z → z ∈ (turn B (turns B k ([l], [l]))).1 := fun m hm z hz => by
      rcases I.cl m hm with q | q
      · exact turn_fst.mpr (.inr ⟨m, q, hz⟩)
      · exact turn_fst.mpr (.inl (q z hz))
    refine ⟨fun m h => ?_, fun m h => ?_, fun m h => ?_, foldl_addRow_sub (fun m h => nomatch h) fun r hr z hz => (I.sub r hr).trans hz.agree⟩
    · rcases turn_fst.mp h with q | ⟨r, hr, hs⟩
      · exact I.ag m q
      · exact (I.sub r hr).trans hs.agree
    · rcases h with h | ⟨z, h, hs⟩
      · exact turn_fst.mpr (.inl (I.all m h))
      · exact nbr z (I.all z h) m hs
    · rcases turn_new h with q | q
      · exact .inr (nbr m q)
      · exact .inl q
theorem mem_swapsOf {B : Bel} {l m : List Nat} (hl : l.length ≤ 5) : m ∈ swapsOf B l ↔ Agree B l m := by
  constructor
  · exact (bfs_turns B l 11).ag m
  · intro h
    refine (bfs_turns B l 11).all m ((agree_near h).mono ?_)
    have e := h.length
    have : m.length ≤ 5 := by omega
    rcases Nat.lt_or_ge m.length 1 with q | q
    · have : m.length = 0 := by omega
      rw [this]
      decide
    rcases Nat.lt_or_ge m.length 2 with q2 | q2
    · have : m.length = 1 := by omega
      rw [this]
      decide
    rcases Nat.lt_or_ge m.length 3 with q3 | q3
    · have : m.length = 2 := by omega
      rw [this]
      decide
    rcases Nat.lt_or_ge m.length 4 with q4 | q4
    · have : m.length = 3 := by omega
      rw [this]
      decide
    rcases Nat.lt_or_ge m.length 5 with q5 | q5
    · have : m.length = 4 := by omega
      rw [this]
      decide
    · have : m.length = 5 := by omega
      rw [this]
      decide
/-- sizes -/
theorem add1_len (st : Runs × Runs) (o : List Nat) : (add1 st o).1.length ≤ st.1.length + 1 ∧ (add1 st o).2.length ≤ st.2.length + 1 := by
  unfold add1
  by_cases e : st.1.contains o = true
  · rw [if_pos e]
    omega
  · rw [if_neg e]
    simp
theorem foldl_add1_len (os : Runs) : ∀ (st : Runs × Runs), (os.foldl add1 st).1.length ≤ st.1.length + os.length ∧ (os.foldl add1 st).2.length ≤ st.2.length + os.length := by
  induction os with
  | nil => intro st; simp
  | cons o os ih =>
    intro st
    have h1 := ih (add1 st o)
    have h2 := add1_len st o
    rw [List.foldl_cons, List.length_cons]
    omega
theorem foldl_addRow_len (B : Bel) (rows : Runs) : (∀ r ∈ rows, r.length ≤ 5) → ∀ (st : Runs × Runs), (rows.foldl (addRow B) st).1.length ≤ st.1.length + 4 * rows.length ∧ (rows.foldl (addRow B) st).2.length ≤ st.2.length + 4 * rows.length := by
  induction rows with
  | nil => intro _ st; simp
  | cons r rows ih =>
    intro h st
    have h1 := ih (fun r' h' => h r' (List.mem_cons_of_mem _ h')) ((nbrs B r).foldl add1 st)
    have h2 := foldl_add1_len (nbrs B r) st
    have h3 := nbrs_length B r
    have h4 := h r List.mem_cons_self
    rw [List.foldl_cons, List.length_cons]
    have e : addRow B st r = (nbrs B r).foldl add1 st := rfl
    rw [e]
    omega
theorem turns_len (B : Bel) (l : List Nat) (hl : l.length ≤ 5) : ∀ k, k ≤ 11 → (turns B k ([l], [l])).1.length ≤ 3 * 4 ^ k ∧ (turns B k ([l], [l])).2.length ≤ 4 ^ k
  | 0, _ => by
    show 1 ≤ 3 * 1 ∧ 1 ≤ 1
    omega
  | k + 1, h => by
    have ih := turns_len B l hl k (by omega)
    have I := bfs_turns B l k
    have hr : ∀ r ∈ (turns B k ([l], [l])).2, r.length ≤ 5 := fun r q => by
      have := (I.sub r q).length
      omega
    have q := foldl_addRow_len B (turns B k ([l], [l])).2 hr ((turns B k ([l], [l])).1, [])
    have e : turns B (k + 1) ([l], [l]) = (turns B k ([l], [l])).2.foldl (addRow B) ((turns B k ([l], [l])).1, []) := rfl
    rw [e, Nat.pow_succ]
    have z : ([] : Runs).length = 0 := rfl
    simp only at q
    omega

/-! ### playing -/
def td (h x : Int) : Int := if 0 < x then x - 1 else h - 1
def mv (B : Bel) (h : Int) (s : Nat → Int) (v : Nat) : Nat → Int := fun i => if i = v then s i - 1 else if B v i = true then td h (s i) else s i
def okm (B : Bel) (n : Nat) (g : Bool) (s : Nat → Int) (v : Nat) : Bool := !(s v == 0) && (!g || (List.range n).all fun w => !(B v w) || !decide (0 < s w))
def playM (B : Bel) (h : Int) (n : Nat) (g : Bool) : List Nat → (Nat → Int) → Option (Nat → Int)
  | [], s => some s
  | v :: r, s => if okm B n g s v = true then playM B h n g r (mv B h s v) else none
theorem okm_iff {B : Bel} {n : Nat} {g : Bool} {s : Nat → Int} {v : Nat} : okm B n g s v = true ↔ s v ≠ 0 ∧ (g = true → ∀ w, w < n → B v w = true → s w ≤ 0) := by
  unfold okm
  rw [Bool.and_eq_true, Bool.or_eq_true, List.all_eq_true]
  constructor
  · rintro ⟨h1, h2⟩
    refine ⟨by simpa using h1, fun hg w hw hB => ?_⟩
    rcases h2 with h2 | h2
    · rw [hg] at h2
      cases h2
    · have := h2 w (List.mem_range.mpr hw)
      rw [hB] at this
      simpa using this
  · rintro ⟨h1, h2⟩
    refine ⟨by simpa using h1, ?_⟩
    cases g with
    | false => exact .inl rfl
    | true =>
      refine .inr fun w hw => ?_
      cases e : B v w with
      | false => rfl
      | true =>
        have := h2 rfl w (List.mem_range.mp hw) e
        simpa using this
theorem mv_comm {B : Bel} {h : Int} {s : Nat → Int} {a b : Nat} (ap : apart B a b = true) : mv B h (mv B h s a) b = mv B h (mv B h s b) a := by
  obtain ⟨h1, h2, h3⟩ := apart_iff.mp ap
  funext i
  unfold mv
  by_cases ea : i = a
  · subst ea
    have e : ¬ i = b := h1
    simp [e, h3]
  · by_cases eb : i = b
    · subst eb
      simp [ea, h2]
    · simp only [ea, eb, if_false]
      by_cases ba : B a i = true <;> by_cases bb : B b i = true <;> simp [ba, bb]
theorem mv_nonneg {B : Bel} {h : Int} {s : Nat → Int} {v : Nat} (hh : 1 ≤ h) (h0 : ∀ i, 0 ≤ s i) (hv : s v ≠ 0) : ∀ i, 0 ≤ mv B h s v i := fun i => by
  unfold mv td
  have := h0 i
  by_cases e : i = v
  · subst e
    rw [if_pos rfl]
    omega
  · rw [if_neg e]
    split
    · split <;> omega
    · exact this
theorem play_swap2 {B : Bel} {h : Int} {n : Nat} {g : Bool} {a b : Nat} {r : List Nat} {s t : Nat → Int} (hB : ∀ x y, B x y = true → y < n) (hh : 2 ≤ h) (h0 : ∀ i, 0 ≤ s i) (ap : apart B a b = true)
    (hp : playM B h n g (a :: b :: r) s = some t) : playM B h n g (b :: a :: r) s = some t := by
  obtain ⟨h1, h2, h3⟩ := apart_iff.mp ap
  unfold playM at hp
  by_cases oa : okm B n g s a = true
  · rw [if_pos oa] at hp
    unfold playM at hp
    by_cases ob : okm B n g (mv B h s a) b = true
    · rw [if_pos ob] at hp
      obtain ⟨a1, a2⟩ := okm_iff.mp oa
      obtain ⟨b1, b2⟩ := okm_iff.mp ob
      have eb : mv B h s a b = s b := by
        unfold mv
        rw [if_neg (Ne.symm h1), h2]
        rfl
      rw [eb] at b1
      have common : g = true → ∀ w, B a w = true → B b w = true → False := fun hg w ha hb => by
        have wa : w ≠ a := by
          rintro rfl
          rw [h3] at hb
          cases hb
        have q1 := a2 hg w (hB _ _ ha) ha
        have q2 := b2 hg w (hB _ _ hb) hb
        have q3 := h0 w
        have e : mv B h s a w = td h (s w) := by
          unfold mv
          rw [if_neg wa, if_pos ha]
        rw [e] at q2
        unfold td at q2
        split at q2 <;> omega
      have ob' : okm B n g s b = true := okm_iff.mpr ⟨b1, fun hg w hw hb => by
        have q2 := b2 hg w hw hb
        have wa : w ≠ a := by
          rintro rfl
          rw [h3] at hb
          cases hb
        have nba : ¬ B a w = true := fun z => common hg w z hb
        have e : mv B h s a w = s w := by
          unfold mv
          rw [if_neg wa, if_neg nba]
        rwa [e] at q2⟩
      have ea : mv B h s b a = s a := by
        unfold mv
        rw [if_neg h1, h3]
        rfl
      have oa' : okm B n g (mv B h s b) a = true := okm_iff.mpr ⟨by rw [ea]; exact a1, fun hg w hw ha => by
        have q1 := a2 hg w hw ha
        have wb : w ≠ b := by
          rintro rfl
          rw [h2] at ha
          cases ha
        have nbb : ¬ B b w = true := fun z => common hg w ha z
        have e : mv B h s b w = s w := by
          unfold mv
          rw [if_neg wb, if_neg nbb]
        rw [e]
        exact q1⟩
      unfold playM
      rw [if_pos ob']
      unfold playM
      rw [if_pos oa', mv_comm (apart_symm ap)]
      exact hp
    · rw [if_neg ob] at hp
      cases hp
  · rw [if_neg oa] at hp
    cases hp
theorem play_sw {B : Bel} {h : Int} {n : Nat} {g : Bool} {l m : List Nat} (hB : ∀ x y, B x y = true → y < n) (hh : 2 ≤ h) (hs : Sw B l m) : ∀ {s t : Nat → Int}, (∀ i, 0 ≤ s i) → playM B h n g l s = some t → playM B h n g m s = some t := by
  obtain ⟨p, a, b, r, ap⟩ := hs
  induction p with
  | nil => exact fun h0 hp => play_swap2 hB hh h0 ap hp
  | cons v p ih =>
    intro s t h0 hp
    rw [List.cons_append] at hp ⊢
    unfold playM at hp ⊢
    by_cases o : okm B n g s v = true
    · rw [if_pos o] at hp ⊢
      exact ih (mv_nonneg (by omega) h0 (okm_iff.mp o).1) hp
    · rw [if_neg o] at hp
      cases hp
theorem play_near {B : Bel} {h : Int} {n : Nat} {g : Bool} (hB : ∀ x y, B x y = true → y < n) (hh : 2 ≤ h) {s t : Nat → Int} (h0 : ∀ i, 0 ≤ s i) : ∀ {k : Nat} {l m : List Nat}, Near B k l m → playM B h n g l s = some t → playM B h n g m s = some t
  | 0, l, m, e, hp => by
    have e' : l = m := e
    rw [← e']
    exact hp
  | k + 1, l, m, hn, hp => by
    rcases hn with hn | ⟨z, hn, hs⟩
    · exact play_near hB hh h0 hn hp
    · exact play_sw hB hh hs h0 (play_near hB hh h0 hn hp)
theorem play_agree {B : Bel} {h : Int} {n : Nat} {g : Bool} {l m : List Nat} {s t : Nat → Int} (hB : ∀ x y, B x y = true → y < n) (hh : 2 ≤ h) (h0 : ∀ i, 0 ≤ s i) (ha : Agree B l m) (hp : playM B h n g l s = some t) : playM B h n g m s = some t :=
  play_near hB hh h0 (agree_near ha) hp
end Hue
end
section
set_option maxHeartbeats 4000000
namespace Hue
open PySem PySem.Spec PyProof.Rows L2

/-! ### the text by places -/
def top (i : Nat) : Stmt := PySem.Challenge.pw_huefall_k14_whole_swaps.main.body.getD i (.Pass ⟨0, 0, 0, 0⟩)

/-- the i-th statement of the top is a def that stands under its name -/
structure Def (K : PySem.W.Frag) (mg : Str → Option Value) (i : Nat) (x : Str) : Prop where
  ex : ∃ (f : Addr) (fd : FuncData), Fun K x x (top i) f fd ∧ mg x = some (.ref f)
/-- what a caller needs of a def -/
structure Cal (P : Program) (w : World) (K : PySem.W.Frag) (mg : Str → Option Value) (base : Heap) (CX : CXT) (k : Nat) (x : Str) (ps : List Str) (sp : Sp) : Prop where
  ex : ∃ (f : Addr) (fd : FuncData), FnOk P w K mg base CX k f fd ps sp ∧ mg x = some (.ref f) ∧ PySem.W.keepIn K (.ref f) = true ∧ Binds K fd ps []
abbrev BindH (x : Str) (st : Stmt) (ps : List Str) : Prop :=
  ∀ (kV doc pm : Value) (an : Option Addr) (cdv ct : Value) (us : List Value), us.length = ps.length → bindArgs (PySem.W.fnOf x x (defArgs st) (defBody st) (defScope st) .none kV doc pm an cdv ct) ⟨us, []⟩ = pure (ps.zip us)

section
variable {P : Program} {w : World} {K : PySem.W.Frag} {mg : Str → Option Value} {base : Heap} {i k : Nat} {x : Str} {N ps : List Str} {sp : Sp}
theorem cal_mk (t : TS) (D : Def K mg i x) (S : FnScope N ps (defScope (top i))) (B : BindH x (top i) ps)
    (hd : ∀ (f : Addr) (cdv : Value) (A : Around) (outer : List Env) (s : Shared) (H : Hp) (E : XK), Room k (A.deeper (envOfC x (defScope (top i)) s.heap.objs.size f cdv)) →
      PSs (cxOf CX0 P w K mg base N x (defScope (top i)) f cdv A outer s H E).nox (defBody (top i)) t)
    (hp : ∀ vs H Q E, sp vs H Q E → vs.length = ps.length ∧ t { nx := fun _ H' => Q .non H', rt := Q } (start N vs) H) : Cal P w K mg base CX0 (k + 1) x ps sp := by
  obtain ⟨f, fd, F, hf⟩ := D.ex
  exact ⟨f, fd, F.ok S (fun vs H Q E h => (hp vs H Q E h).1) (fun cdv A outer s H vs Q E hr h => ⟨t, hd f cdv A outer s H E hr, (hp vs H Q E h).2⟩), hf, F.kp, F.binds B⟩
/-- a def that may raise -/
theorem cal_mkX (t : XK → TS) (D : Def K mg i x) (S : FnScope N ps (defScope (top i))) (B : BindH x (top i) ps)
    (hd : ∀ (f : Addr) (cdv : Value) (A : Around) (outer : List Env) (s : Shared) (H : Hp) (E : XK), Room k (A.deeper (envOfC x (defScope (top i)) s.heap.objs.size f cdv)) →
      PSs (cxOf (L2.CX P w) P w K mg base N x (defScope (top i)) f cdv A outer s H E) (defBody (top i)) (t E))
    (hp : ∀ vs H Q E, sp vs H Q E → vs.length = ps.length ∧ t E { nx := fun _ H' => Q .non H', rt := Q } (start N vs) H) : Cal P w K mg base (L2.CX P w) (k + 1) x ps sp := by
  obtain ⟨f, fd, F, hf⟩ := D.ex
  exact ⟨f, fd, F.okX S (fun vs H Q E h => (hp vs H Q E h).1) (fun cdv A outer s H vs Q E hr h => ⟨t E, hd f cdv A outer s H E hr, (hp vs H Q E h).2⟩), hf, F.kp, F.binds B⟩
end

/-! ### calls of the text's own defs -/
def tCl (sp : Sp) (E : XK) (t : TA) : TE := fun σ H Q => t σ H fun vs H1 => sp vs H1 Q E
theorem pe_cl {X : Cx} {CX : CXT} {k : Nat} {x : Str} {ps : List Str} {sp : Sp} {E : XK} {t : TA} {p pos : Pos} {e : Expr} {es : List Expr} (C : Cal X.prog X.w X.K X.mg X.base CX k x ps sp) (hr : Room k X.A) (hg : Gl X x) (hx : Passes CX X E) (ha : PA X (e :: es) t)
    (hdb : (x == ("__debug__" : Str)) = false := by decide) (he : starEach (e :: es) X.env = (false, eval e X.env) :: starEach es X.env := by rfl) (hpl : (backTo pos (starEach es X.env)).any (·.1) = false := by rfl) :
    PE X (.Call (.Name x p) (e :: es) [] pos) (tCl sp E t) := by
  refine ⟨fun pins s σ H Q I h => ?_⟩
  obtain ⟨f, fd, F, hm, hk, hb⟩ := C.ex
  refine (pe_call F hr hg hm hk hb .nil hx ha hdb he hpl).run pins s σ H Q I ?_
  show t σ H fun vs H1 => sp (vs ++ []) H1 Q E
  have e1 : (fun vs H1 => sp (vs ++ []) H1 Q E) = fun vs H1 => sp vs H1 Q E := by
    funext vs H1
    rw [List.append_nil]
  rw [e1]
  exact h

/-- what of the built-ins' names and the classes' the text has left as it was -/
structure Txt (K : PySem.W.Frag) (mg : Str → Option Value) (cH cHE : Addr) : Prop where
  m_all : mg "all" = none
  m_bool : mg "bool" = none
  m_enumerate : mg "enumerate" = none
  m_int : mg "int" = none
  m_isinstance : mg "isinstance" = none
  m_len : mg "len" = none
  m_list : mg "list" = none
  m_max : mg "max" = none
  m_min : mg "min" = none
  m_range : mg "range" = none
  m_repr : mg "repr" = none
  m_reversed : mg "reversed" = none
  m_sorted : mg "sorted" = none
  m_tuple : mg "tuple" = none
  mgH : mg "House" = some (.ref cH)
  mgHE : mg "HuefallError" = some (.ref cHE)
/-! ### readings by name -/
abbrev oAdd : R2 := rI0 fun i j => .int (i + j)
abbrev oSub : R2 := rI0 fun i j => .int (i - j)
abbrev oMul : R2 := rI CMul fun i j => .int (i * j)
abbrev oDiv : R2 := rI CDiv fun i j => .int (i / j)
abbrev oMod : R2 := rI (fun _ j => 0 < j) fun i j => .int (i % j)
abbrev oPow : R2 := rI CPow fun i j => .int (i ^ j.toNat)
abbrev oShl : R2 := rI CPow fun i j => .int (i * 2 ^ j.toNat)
abbrev oShr : R2 := rI (fun _ j => 0 ≤ j) fun i j => .int (i / 2 ^ j.toNat)
abbrev oAnd : R2 := rI0 fun i j => .int (Builtin.bitAnd i j)
abbrev oOr : R2 := rI0 fun i j => .int (Builtin.bitOr i j)
abbrev oLt : R2 := rI0 fun i j => .bl (decide (i < j))
abbrev oLe : R2 := rI0 fun i j => .bl (decide (i ≤ j))
abbrev oGt : R2 := rI0 fun i j => .bl (decide (j < i))
abbrev oGe : R2 := rI0 fun i j => .bl (decide (j ≤ i))
abbrev oIsN : R2 := fun x y H Q => y = .non ∧ Q (.bl (decide (x = .non))) H
abbrev oNotN : R2 := fun x y H Q => y = .non ∧ Q (.bl (!decide (x = .non))) H
abbrev oNeg : V → Hp → VK → Prop := rU fun i => .int (-i)
def rLen (K : PySem.W.Frag) : List V → Hp → VK → Prop := fun xs H Q => ∃ p ys, xs = [.ref p] ∧ (SqL K H p ys ∨ SqT K H p ys) ∧ Q (.int ys.length) H
def rListOf (K : PySem.W.Frag) : List V → Hp → VK → Prop := fun xs H Q => ∃ p ys, xs = [.ref p] ∧ (SqL K H p ys ∨ SqT K H p ys) ∧ ∀ l, H l = none → Q (.ref l) (upd H l (.lst ys))
def rTupOf (K : PySem.W.Frag) : List V → Hp → VK → Prop := fun xs H Q => ∃ p ys, xs = [.ref p] ∧ ((SqL K H p ys ∧ ∀ l, H l = none → Q (.ref l) (upd H l (.tup ys))) ∨ (SqT K H p ys ∧ Q (.ref p) H))
def rInt1 : List V → Hp → VK → Prop := fun xs H Q => (∃ i, xs = [.int i] ∧ Q (.int i) H) ∨ ∃ k, xs = [.bl k] ∧ Q (.int (if k then 1 else 0)) H
def rMax2 : List V → Hp → VK → Prop := fun xs H Q => ∃ i j, xs = [.int i, .int j] ∧ Q (.int (if j > i then j else i)) H
section
variable {X : Cx}
def rInsert : V → List V → Hp → VK → Prop := fun x vs H Q => ∃ (l : Addr) (xs : List V) (i : Int) (y : V), x = .ref l ∧ vs = [.int i, y] ∧ H l = some (.lst xs) ∧ xs.length < sizeLine ∧ 0 ≤ i ∧ i < 2 ^ 63 ∧ Q .non (upd H l (.lst (xs.take i.toNat ++ [y] ++ xs.drop i.toNat)))
theorem mt_insQ : MtR X "list.insert" rInsert := mt_insert
theorem c_len : CallR X (.builtin "len") (rLen X.K) := call_len_seq
theorem c_list : CallR X (.type "list") (rListOf X.K) := call_list_of
theorem c_tuple : CallR X (.type "tuple") (rTupOf X.K) := call_tuple_of
theorem c_int : CallR X (.type "int") rInt1 := call_int1
theorem c_max (hc : X.calm = true) : CallR X (.builtin "max") rMax2 := call_max2 hc

/-- xs[i] op= e -/
def rGetL (K : PySem.W.Frag) : V → V → Hp → VK → Prop := rIxL K
theorem get_list : PGet X (rGetL X.K) := by
  intro pins s σ H x y v u Q I rx ry h
  obtain ⟨p, xs, i, z, rfl, rfl, hq, he, q⟩ := h
  cases rx
  obtain ⟨t, rfl⟩ := ry
  obtain ⟨its, r, pl, hz⟩ := I.list hq
  obtain ⟨j, h1, h2, h3, h4, h5⟩ := atI_get he
  obtain ⟨w, ew, rw'⟩ := r.get h2
  have hl := r.length
  have hn := line63
  have fin : EP X pins σ Q w s := ⟨z, H, I, rw', q⟩
  by_cases h0 : 0 ≤ i
  · have hj : i.toNat = j := by
      rw [seqIndex_of h0 h5] at h1
      exact Option.some.inj h1
    exact wpAny_getItem_list pl.isList h0 (by omega) (by rw [hj]; simpa using ew) fin
  · have hj : (i + (its.toArray.size : Int)).toNat = j := by
      rw [seqIndex_neg (by omega) h4] at h1
      rw [List.size_toArray, ← hl]
      exact Option.some.inj h1
    exact wpAny_getItem_list_neg pl.isList (by omega) (by rw [List.size_toArray] <;> omega) (by omega) (by rw [hj]; simpa using ew) fin
end
end Hue
end
section
set_option maxHeartbeats 4000000
namespace Hue
open PySem PySem.Spec PyProof.Rows L2

/-! ### heaps that grow -/
theorem sm_new {H : Hp} {p : Addr} {o : HO} (h : H p = Option.none) : Same H (upd H p o) := fun a u e => by
  rw [upd_ne (ne_of_none e h)]
  exact e
theorem sm_mut {H H' : Hp} {p : Addr} {o : HO} (e : Same H H') (h : H p = Option.none) : Same H (upd H' p o) := fun a u ha => by
  rw [upd_ne (ne_of_none ha h)]
  exact e a u ha
/-- a new object is handed back, all that stood stands -/
def RetN (H : Hp) (Q : VK) (o : HO) : Prop := ∀ p H', H p = Option.none → Same H H' → H' p = some o → Q (.ref p) H'
theorem RetN.at {H H' : Hp} {Q : VK} {o : HO} (r : RetN H Q o) (e : Same H H') : ∀ p, H' p = Option.none → Q (.ref p) (upd H' p o) := fun p hp =>
  r p _ (e.free hp) (e.trans (sm_new hp)) upd_same
/-- the heap without what stands at b -/
def rm (b : Addr) (H : Hp) : Hp := fun a => if a = b then Option.none else H a
theorem rm_le (b : Addr) (H : Hp) : Same (rm b H) H := fun a o e => by
  unfold rm at e
  by_cases h : a = b
  · rw [if_pos h] at e
    cases e
  · rw [if_neg h] at e
    exact e
theorem rm_of {b a : Addr} {H : Hp} {o : HO} (h : H a = some o) (n : a ≠ b) : rm b H a = some o := by
  unfold rm
  rw [if_neg n]
  exact h
theorem rm_ne {b a : Addr} {H : Hp} {o : HO} (h : rm b H a = some o) : a ≠ b := fun e => by
  unfold rm at h
  rw [if_pos e] at h
  cases h
theorem rm_same {b : Addr} {H H' : Hp} (e : Same H H') : Same (rm b H) (rm b H') := fun a o h => rm_of (e a o (rm_le b H a o h)) (rm_ne h)
theorem rm_upd {b : Addr} {H : Hp} {o : HO} : Same (rm b H) (rm b (upd H b o)) := fun a u h => rm_of (by rw [upd_ne (rm_ne h)]; exact rm_le b H a u h) (rm_ne h)
theorem rm_none {b a : Addr} {H : Hp} (h : H a = Option.none) : rm b H a = Option.none := by
  unfold rm
  by_cases e : a = b
  · rw [if_pos e]
  · rw [if_neg e]
    exact h

/-! ### data in the heap -/
abbrev vN (x : Nat) : V := .int (x : Int)
abbrev vNs (r : List Nat) : List V := r.map vN
theorem vNs_at {r : List Nat} {i x : Nat} (h : r[i]? = some x) : (vNs r)[i]? = some (vN x) := by
  rw [List.getElem?_map, h]
  rfl
theorem of_vNs {r : List Nat} {i : Nat} {v : V} (h : (vNs r)[i]? = some v) : ∃ x, r[i]? = some x ∧ v = vN x := by
  rw [List.getElem?_map] at h
  cases e : r[i]? with
  | none =>
    rw [e] at h
    cases h
  | some x =>
    rw [e] at h
    exact ⟨x, rfl, (Option.some.inj h).symm⟩
theorem vN_inj {x y : Nat} (h : vN x = vN y) : x = y := by
  have := V.int.inj h
  omega
theorem vNs_inj {l m : List Nat} (h : vNs l = vNs m) : l = m := by
  induction l generalizing m with
  | nil =>
    cases m with
    | nil => rfl
    | cons _ _ => cases h
  | cons a l ih =>
    cases m with
    | nil => cases h
    | cons b m =>
      have e1 := vN_inj (List.cons.inj h).1
      rw [e1, ih (List.cons.inj h).2]
theorem atN {r : List Nat} {i : Nat} (h : i < r.length) : atI (vNs r) (i : Int) = some (vN (r.getD i 0)) :=
  atI_nat (vNs_at (by rw [List.getD_eq_getElem?_getD, List.getElem?_eq_getElem h]; rfl))
theorem atN' {r : List Nat} {i x : Nat} (h : r[i]? = some x) : atI (vNs r) (i : Int) = some (vN x) := atI_nat (vNs_at h)

/-- lists of lamps at the addresses as -/
def Rows (H : Hp) (as : List Addr) (rows : List (List Nat)) : Prop := as.length = rows.length ∧ ∀ (i : Nat) (p : Addr) (r : List Nat), as[i]? = some p → rows[i]? = some r → H p = some (.lst (vNs r))
theorem Rows.mono {H H' : Hp} {as : List Addr} {rows : List (List Nat)} (e : Same H H') (h : Rows H as rows) : Rows H' as rows := ⟨h.1, fun i p r a b => e _ _ (h.2 i p r a b)⟩
theorem Rows.get {H : Hp} {as : List Addr} {rows : List (List Nat)} (h : Rows H as rows) {i : Nat} {r : List Nat} (hr : rows[i]? = some r) : ∃ p, as[i]? = some p ∧ H p = some (.lst (vNs r)) := by
  have hi : i < as.length := by
    rw [h.1]
    exact (List.getElem?_eq_some_iff.mp hr).1
  exact ⟨as[i], List.getElem?_eq_getElem hi, h.2 i _ r (List.getElem?_eq_getElem hi) hr⟩
def LLat (H : Hp) (a : Addr) (rows : List (List Nat)) : Prop := ∃ as : List Addr, H a = some (.lst (as.map V.ref)) ∧ Rows H as rows
theorem LLat.mono {H H' : Hp} {a : Addr} {rows : List (List Nat)} (e : Same H H') (h : LLat H a rows) : LLat H' a rows := let ⟨as, h1, h2⟩ := h; ⟨as, e _ _ h1, h2.mono e⟩
def belRow (B : Bel) (n v : Nat) : List Nat := (List.range n).filter (B v)
def belRows (B : Bel) (n : Nat) : List (List Nat) := (List.range n).map (belRow B n)
theorem belRows_at {B : Bel} {n v : Nat} (h : v < n) : (belRows B n)[v]? = some (belRow B n v) := by
  unfold belRows
  rw [List.getElem?_map, List.getElem?_range h]
  rfl
theorem belRows_len {B : Bel} {n : Nat} : (belRows B n).length = n := by simp [belRows]
theorem mem_belRow {B : Bel} {n v w : Nat} : w ∈ belRow B n v ↔ w < n ∧ B v w = true := by
  unfold belRow
  rw [List.mem_filter, List.mem_range]
/-- a state's hues -/
def stV (n : Nat) (s : Nat → Int) : List V := (List.range n).map fun i => V.int (s i)
theorem stV_len {n : Nat} {s : Nat → Int} : (stV n s).length = n := by simp [stV]
theorem stV_at {n i : Nat} {s : Nat → Int} (h : i < n) : (stV n s)[i]? = some (.int (s i)) := by
  unfold stV
  rw [List.getElem?_map, List.getElem?_range h]
  rfl
/-- masks: a list of numbers, bit w of the v-th says whether R v w -/
def Masks (H : Hp) (l : Addr) (n : Nat) (R : Bel) : Prop := ∃ ms : List Nat, H l = some (.lst (vNs ms)) ∧ ms.length = n ∧ ∀ (v m : Nat), ms[v]? = some m → ∀ w, m.testBit w = (decide (w < n) && R v w)
theorem Masks.mono {H H' : Hp} {l : Addr} {n : Nat} {R : Bel} (e : Same H H') (h : Masks H l n R) : Masks H' l n R := let ⟨ms, h1, h2⟩ := h; ⟨ms, e _ _ h1, h2⟩
def rev (B : Bel) : Bel := fun v w => B w v
/-- a house: n lamps, h hues, B v w: w hangs beneath v -/
structure HouseAt (K : PySem.W.Frag) (H : Hp) (a : Addr) (B : Bel) (n : Nat) (h : Int) : Prop where
  ex : ∃ (C dx : Addr) (fs : List (Str × V)) (lb la : Addr), H a = some (.ins C dx fs) ∧ Cls K C ∧ NoAttr K C "count" ∧ NoAttr K C "hues" ∧ NoAttr K C "_below_masks" ∧ NoAttr K C "_above_masks" ∧
    fs.lookup ("count" : Str) = some (.int n) ∧ fs.lookup ("hues" : Str) = some (.int h) ∧ fs.lookup ("_below_masks" : Str) = some (.ref lb) ∧ fs.lookup ("_above_masks" : Str) = some (.ref la) ∧ Masks H lb n B ∧ Masks H la n (rev B)
  n16 : 1 ≤ n ∧ n ≤ 16
  h10 : 2 ≤ h ∧ h ≤ 10
  bd : ∀ v w, B v w = true → v < n ∧ w < n
theorem HouseAt.mono {K : PySem.W.Frag} {H H' : Hp} {a : Addr} {B : Bel} {n : Nat} {h : Int} (e : Same H H') (x : HouseAt K H a B n h) : HouseAt K H' a B n h := by
  obtain ⟨⟨C, dx, fs, lb, la, h1, h2, h3, h4, h5, h6, h7, h8, h9, h10, h11, h12⟩, y1, y2, y3⟩ := x
  exact ⟨⟨C, dx, fs, lb, la, e _ _ h1, h2, h3, h4, h5, h6, h7, h8, h9, h10, h11.mono e, h12.mono e⟩, y1, y2, y3⟩

/-- plain values: none, bools, ints, texts, tuples -/
inductive PlV (H : Hp) : V → Prop where
  | non : PlV H .non
  | bl (b : Bool) : PlV H (.bl b)
  | int (i : Int) : PlV H (.int i)
  | str (s : Str) : PlV H (.str s)
  | tup {a : Addr} {xs : List V} (h : H a = some (.tup xs)) : PlV H (.ref a)
theorem PlV.mono {H H' : Hp} {x : V} (e : Same H H') (p : PlV H x) : PlV H' x := by
  cases p with
  | non => exact .non
  | bl b => exact .bl b
  | int i => exact .int i
  | str s => exact .str s
  | tup h => exact .tup (e _ _ h)
def isI : V → Bool
  | .int _ => true
  | _ => false
def isIB : V → Bool
  | .int _ => true
  | .bl _ => true
  | _ => false
def isB : V → Bool
  | .bl _ => true
  | _ => false
def isLampV (n : Nat) : V → Bool
  | .int i => decide (0 ≤ i) && decide (i < n)
  | _ => false
theorem PlV.kitI {K : PySem.W.Frag} {H : Hp} {x : V} (p : PlV H x) : ∃ t, TyX K H x t ∧ PySem.W.kitOne K t (.type "int") = some (isIB x) := by
  cases p with
  | non => exact ⟨_, .base .non, kit_ty (a := "NoneType") (b := "int") (r := false) (by decide +kernel)⟩
  | bl b => exact ⟨_, .base (.bl b), kit_ty (a := "bool") (b := "int") (r := true) (by decide +kernel)⟩
  | int i => exact ⟨_, .base (.int i), kit_ty (a := "int") (b := "int") (r := true) (by decide +kernel)⟩
  | str s => exact ⟨_, .base (.str s), kit_ty (a := "str") (b := "int") (r := false) (by decide +kernel)⟩
  | tup h => exact ⟨_, .base (.tup h), kit_ty (a := "tuple") (b := "int") (r := false) (by decide +kernel)⟩
theorem PlV.kitB {K : PySem.W.Frag} {H : Hp} {x : V} (p : PlV H x) : ∃ t, TyX K H x t ∧ PySem.W.kitOne K t (.type "bool") = some (isB x) := by
  cases p with
  | non => exact ⟨_, .base .non, kit_ty (a := "NoneType") (b := "bool") (r := false) (by decide +kernel)⟩
  | bl b => exact ⟨_, .base (.bl b), kit_ty (a := "bool") (b := "bool") (r := true) (by decide +kernel)⟩
  | int i => exact ⟨_, .base (.int i), kit_ty (a := "int") (b := "bool") (r := false) (by decide +kernel)⟩
  | str s => exact ⟨_, .base (.str s), kit_ty (a := "str") (b := "bool") (r := false) (by decide +kernel)⟩
  | tup h => exact ⟨_, .base (.tup h), kit_ty (a := "tuple") (b := "bool") (r := false) (by decide +kernel)⟩
theorem isI_eq (x : V) : (isIB x && !isB x) = isI x := by cases x <;> rfl

/-- a value that is a sequence: a list or a tuple -/
def Seq (K : PySem.W.Frag) (H : Hp) (a : Addr) (xs : List V) : Prop := SqL K H a xs ∨ SqT K H a xs
theorem sqT_mono {K : PySem.W.Frag} {H H' : Hp} {a : Addr} {xs : List V} (e : Same H H') (h : SqT K H a xs) : SqT K H' a xs := by
  rcases h with (h | ⟨o, h⟩) | h
  · exact .inl (.inl (e _ _ h))
  · exact .inl (.inr ⟨o, e _ _ h⟩)
  · exact .inr h
theorem Seq.mono {K : PySem.W.Frag} {H H' : Hp} {a : Addr} {xs : List V} (e : Same H H') (h : Seq K H a xs) : Seq K H' a xs := h.elim (fun x => .inl (e.seq x)) (fun x => .inr (sqT_mono e x))
theorem n_line {n : Nat} (h : n ≤ 10000000) : n ≤ sizeLine := Nat.le_trans h (by decide)
theorem n_lt {n : Nat} (h : n < 10000000) : n < sizeLine := Nat.lt_of_lt_of_le h (by decide)
end Hue
end
section
set_option maxHeartbeats 4000000
namespace Hue
open PySem PySem.Spec PyProof.Rows L2
/-! ### the promises of the program's defs -/
def sp_is_integer (K : PySem.W.Frag) : Sp := fun vs H Q _ => ∃ x, vs = [x] ∧ PlV H x ∧ Q (.bl (isI x)) H
def sp_is_lamp (K : PySem.W.Frag) : Sp := fun vs H Q _ => ∃ (a : Addr) (x : V) (B : Bel) (n : Nat) (h : Int), vs = [.ref a, x] ∧ HouseAt K H a B n h ∧ PlV H x ∧ Q (.bl (isLampV n x)) H
def sp_bits (K : PySem.W.Frag) : Sp := fun vs H Q _ => ∃ (m n : Nat), vs = [vN m] ∧ n ≤ 16 ∧ (∀ w, m.testBit w = true → w < n) ∧ RetN H Q (.lst (vNs ((List.range n).filter m.testBit)))
def sp_below_masks (K : PySem.W.Frag) : Sp := fun vs H Q _ => ∃ (a : Addr) (B : Bel) (n : Nat) (h : Int), vs = [.ref a] ∧ HouseAt K H a B n h ∧ ∀ l, Masks H l n B → Q (.ref l) H
def sp_above_masks (K : PySem.W.Frag) : Sp := fun vs H Q _ => ∃ (a : Addr) (B : Bel) (n : Nat) (h : Int), vs = [.ref a] ∧ HouseAt K H a B n h ∧ ∀ l, Masks H l n (rev B) → Q (.ref l) H
def sp_turned_down (K : PySem.W.Frag) : Sp := fun vs H Q _ => ∃ (x h : Int), vs = [.int x, .int h] ∧ Q (.int (td h x)) H
/-- the class of the error -/
def IsIL (K : PySem.W.Frag) (C : Addr) : Prop := PySem.W.nsIn K mainGlobals "InvalidLamp" = some (some (.ref C))
/-- the error of a value that is no lamp -/
def RaisesIL (K : PySem.W.Frag) (H : Hp) (E : XK) (x : V) : Prop := ∀ (C d : Addr) (H' : Hp), IsIL K C → Same H H' → H' d = some (.xd [("lamp", x)]) → E (.ref C) (some d) H'
def sp_need_lamp (K : PySem.W.Frag) : Sp := fun vs H Q E => ∃ (a : Addr) (x : V) (B : Bel) (n : Nat) (h : Int), vs = [.ref a, x] ∧ HouseAt K H a B n h ∧ PlV H x ∧ (isLampV n x = true → Q .non H) ∧ (isLampV n x = false → RaisesIL K H E x)
/-- the first value that is no lamp -/
def badV (n : Nat) (xs : List V) : Option V := xs.find? fun x => !isLampV n x
def sp_need_run (K : PySem.W.Frag) : Sp := fun vs H Q E => ∃ (a r : Addr) (xs : List V) (B : Bel) (n : Nat) (h : Int), vs = [.ref a, .ref r] ∧ HouseAt K H a B n h ∧ H r = some (.lst xs) ∧ (∀ x ∈ xs, PlV H x) ∧
  (badV n xs = none → Q .non H) ∧ ∀ x, badV n xs = some x → RaisesIL K H E x
/-- a state of the house -/
structure StOk (H : Hp) (a : Addr) (n : Nat) (h : Int) (s : Nat → Int) : Prop where
  at_ : H a = some (.tup (stV n s))
  lo : ∀ i, 0 ≤ s i
  hi : ∀ i, s i < h
theorem StOk.mono {H H' : Hp} {a : Addr} {n : Nat} {h : Int} {s : Nat → Int} (e : Same H H') (x : StOk H a n h s) : StOk H' a n h s := ⟨e _ _ x.at_, x.lo, x.hi⟩
def sp_is_state (K : PySem.W.Frag) : Sp := fun vs H Q _ => ∃ (a t : Addr) (B : Bel) (n : Nat) (h : Int) (s : Nat → Int), vs = [.ref a, .ref t] ∧ HouseAt K H a B n h ∧ StOk H t n h s ∧ ∀ H', Same H H' → Q (.bl true) H'
def sp_need_state (K : PySem.W.Frag) : Sp := fun vs H Q _ => ∃ (a t : Addr) (B : Bel) (n : Nat) (h : Int) (s : Nat → Int), vs = [.ref a, .ref t] ∧ HouseAt K H a B n h ∧ StOk H t n h s ∧ ∀ H', Same H H' → Q .non H'
/-- the least lit lamp beneath v -/
def litB (B : Bel) (n : Nat) (s : Nat → Int) (v : Nat) : Option Nat := (belRow B n v).find? fun w => decide (0 < s w)
def optV : Option Nat → V
  | none => .non
  | some x => vN x
def sp_lit_beneath (K : PySem.W.Frag) : Sp := fun vs H Q _ => ∃ (a t : Addr) (v : Nat) (B : Bel) (n : Nat) (h : Int) (s : Nat → Int), vs = [.ref a, .ref t, vN v] ∧ HouseAt K H a B n h ∧ StOk H t n h s ∧ v < n ∧ ∀ H', Same H H' → Q (optV (litB B n s v)) H'
def sp_moved (K : PySem.W.Frag) : Sp := fun vs H Q _ => ∃ (a t : Addr) (v : Nat) (B : Bel) (n : Nat) (h : Int) (s : Nat → Int), vs = [.ref a, .ref t, vN v] ∧ HouseAt K H a B n h ∧ (∀ w, B w w = false) ∧ StOk H t n h s ∧ v < n ∧ s v ≠ 0 ∧ RetN H Q (.tup (stV n (mv B h s v)))
def sp_can_move (K : PySem.W.Frag) : Sp := fun vs H Q _ => ∃ (a t : Addr) (v : Nat) (g : Bool) (B : Bel) (n : Nat) (h : Int) (s : Nat → Int), vs = [.ref a, .ref t, vN v, .bl g] ∧ HouseAt K H a B n h ∧ StOk H t n h s ∧ v < n ∧ ∀ H', Same H H' → Q (.bl (okm B n g s v)) H'
def sp_refuse (K : PySem.W.Frag) : Sp := fun vs H Q _ => ∃ (a t : Addr) (v : Nat) (k : V) (g : Bool) (B : Bel) (n : Nat) (h : Int) (s : Nat → Int), vs = [.ref a, .ref t, vN v, k, .bl g] ∧ HouseAt K H a B n h ∧ StOk H t n h s ∧ v < n ∧ okm B n g s v = true ∧ ∀ H', Same H H' → Q .non H'
def sp_play (K : PySem.W.Frag) : Sp := fun vs H Q _ => ∃ (a t r : Addr) (g : Bool) (l : List Nat) (B : Bel) (n : Nat) (h : Int) (s s' : Nat → Int), vs = [.ref a, .ref t, .ref r, .bl g] ∧ HouseAt K H a B n h ∧ (∀ w, B w w = false) ∧ StOk H t n h s ∧ H r = some (.lst (vNs l)) ∧ (∀ x ∈ l, x < n) ∧ l.length ≤ 1000 ∧
  playM B h n g l s = some s' ∧ ∀ p H', Same H H' → StOk H' p n h s' → Q (.ref p) H'
def sp_first_refused (K : PySem.W.Frag) : Sp := fun vs H Q _ => ∃ (a t r : Addr) (g : Bool) (l : List Nat) (B : Bel) (n : Nat) (h : Int) (s s' : Nat → Int), vs = [.ref a, .ref t, .ref r, .bl g] ∧ HouseAt K H a B n h ∧ (∀ w, B w w = false) ∧ StOk H t n h s ∧ H r = some (.lst (vNs l)) ∧ (∀ x ∈ l, x < n) ∧ l.length ≤ 1000 ∧
  playM B h n g l s = some s' ∧ ∀ H', Same H H' → Q .non H'
/-- how often each lamp is in the run -/
def cnts (n : Nat) (l : List Nat) : List Nat := (List.range n).map fun x => l.count x
def sp_counts_of (K : PySem.W.Frag) : Sp := fun vs H Q _ => ∃ (a r : Addr) (l : List Nat) (B : Bel) (n : Nat) (h : Int), vs = [.ref a, .ref r] ∧ HouseAt K H a B n h ∧ H r = some (.lst (vNs l)) ∧ (∀ x ∈ l, x < n) ∧ RetN H Q (.lst (vNs (cnts n l)))
/-- the lamps comparable with each -/
def cmpB (B : Bel) : Bel := fun v w => B v w || B w v
/-- a new list of new lists -/
def RetNN (H : Hp) (Q : VK) (rows : List (List Nat)) : Prop := ∀ (p : Addr) (as : List Addr) (H' : Hp), H p = Option.none → (∀ q ∈ as, H q = Option.none) → (p :: as).Nodup → Same H H' → H' p = some (.lst (as.map V.ref)) → Rows H' as rows → Q (.ref p) H'
def sp_comparable_lamps (K : PySem.W.Frag) : Sp := fun vs H Q _ => ∃ (a : Addr) (B : Bel) (n : Nat) (h : Int), vs = [.ref a] ∧ HouseAt K H a B n h ∧ ∀ (p : Addr) (as : List Addr) (H' : Hp), H p = Option.none → (∀ q ∈ as, H q = Option.none) → Same H H' → H' p = some (.lst (as.map V.ref)) → Rows H' as (belRows (cmpB B) n) → Q (.ref p) H'
def sp_moves_at (K : PySem.W.Frag) : Sp := fun vs H Q _ => ∃ (r : Addr) (x y : Nat) (l : List Nat), vs = [.ref r, vN x, vN y] ∧ H r = some (.lst (vNs l)) ∧ l.length ≤ 1000 ∧ RetN H Q (.lst (vNs (kp x y l)))
/-- the program's test of a swap -/
def swB (B : Bel) (n : Nat) (l m : List Nat) : Bool := decide (cnts n l = cnts n m) && (List.range n).all fun u => (belRow B n u).all fun w => decide (kp u w l = kp u w m)
def sp_is_swap (K : PySem.W.Frag) : Sp := fun vs H Q E => ∃ (a r1 r2 : Addr) (xs ys : List V) (B : Bel) (n : Nat) (h : Int), vs = [.ref a, .ref r1, .ref r2] ∧ HouseAt K H a B n h ∧ H r1 = some (.lst xs) ∧ H r2 = some (.lst ys) ∧ (∀ x ∈ xs, PlV H x) ∧ (∀ x ∈ ys, PlV H x) ∧
  (badV n xs = none → badV n ys = none → ∃ l m, xs = vNs l ∧ ys = vNs m ∧ l.length ≤ 1000 ∧ m.length ≤ 1000 ∧ ∀ H', Same H H' → Q (.bl (swB B n l m)) H') ∧ (∀ x, badV n xs = some x → RaisesIL K H E x) ∧ (badV n xs = none → ∀ x, badV n ys = some x → RaisesIL K H E x)
def sp_sorted_form (K : PySem.W.Frag) : Sp := fun vs H Q E => ∃ (a r : Addr) (xs : List V) (B : Bel) (n : Nat) (h : Int), vs = [.ref a, .ref r] ∧ HouseAt K H a B n h ∧ H r = some (.lst xs) ∧ (∀ x ∈ xs, PlV H x) ∧
  (badV n xs = none → (∀ w, B w w = false) ∧ ∃ l, xs = vNs l ∧ l.length ≤ 1000 ∧ RetN H Q (.lst (vNs (sf B n l)))) ∧ ∀ x, badV n xs = some x → RaisesIL K H E x
def sp_neighbours (K : PySem.W.Frag) : Sp := fun vs H Q E => ∃ (a r : Addr) (xs : List V) (B : Bel) (n : Nat) (h : Int), vs = [.ref a, .ref r] ∧ HouseAt K H a B n h ∧ H r = some (.lst xs) ∧ (∀ x ∈ xs, PlV H x) ∧
  (badV n xs = none → ∃ l, xs = vNs l ∧ l.length ≤ 1000 ∧ RetNN H Q (nbrs B l)) ∧ ∀ x, badV n xs = some x → RaisesIL K H E x
/-- next_sorted: heads hs (end: e) -/
def nextS (C : Bel) (n : Nat) (hs : List Nat) (e : Nat) : Option Nat := (List.range n).find? fun x => decide (hs.getD x 0 < e) && (belRow C n x).all fun y => decide (hs.getD x 0 < hs.getD y 0)
def sp_next_sorted (K : PySem.W.Frag) : Sp := fun vs H Q _ => ∃ (r c : Addr) (hs : List Nat) (C : Bel) (n e x : Nat), vs = [.ref r, .ref c, vN e] ∧ H r = some (.lst (vNs hs)) ∧ hs.length = n ∧ n ≤ 16 ∧ LLat H c (belRows C n) ∧ nextS C n hs e = some x ∧ ∀ H', Same H H' → Q (vN x) H'
end Hue
end
section
set_option maxHeartbeats 4000000
namespace Hue
open PySem PySem.Spec PyProof.Rows L2

/-! ### data that == compares -/
theorem Dp.mono {K : PySem.W.Frag} {H H' : Hp} (e : Same H H') {x : V} {d : PyData} (h : Dp K H x d) : Dp K H' x d := by
  refine Dp.rec (motive_1 := fun x d _ => Dp K H' x d) (motive_2 := fun xs ds _ => DpAll K H' xs ds) ?_ ?_ ?_ ?_ ?_ ?_ ?_ ?_ h
  · exact .non
  · exact fun b => .bl b
  · exact fun i => .int i
  · exact fun s => .str s
  · exact fun hs _ ih => .lst (e.seq hs) ih
  · exact fun hs _ ih => .tup (sqT_mono e hs) ih
  · exact .nil
  · exact fun _ _ a b => .cons a b
def dN (l : List Nat) : PyData := .list (l.map fun x : Nat => PyData.int (x : Int))
theorem dp_ints {K : PySem.W.Frag} {H : Hp} : ∀ l : List Nat, DpAll K H (vNs l) (l.map fun x : Nat => PyData.int (x : Int))
  | [] => .nil
  | x :: l => .cons (.int _) (dp_ints l)
theorem dp_N {K : PySem.W.Frag} {H : Hp} {a : Addr} {l : List Nat} (h : H a = some (.lst (vNs l))) : Dp K H (.ref a) (dN l) := .lst (SqL.of h) (dp_ints l)
theorem lay_ints : ∀ l : List Nat, PyData.canLayAll0 (l.map fun x : Nat => PyData.int (x : Int)) = true
  | [] => by simp [PyData.canLayAll0]
  | x :: l => by simp [PyData.canLayAll0, PyData.canLay0, lay_ints l]
theorem dep_ints : ∀ l : List Nat, PyData.depthAll (l.map fun x : Nat => PyData.int (x : Int)) ≤ 1
  | [] => by simp [PyData.depthAll]
  | x :: l => by
    have := dep_ints l
    simp only [List.map_cons, PyData.depthAll, PyData.depth]
    omega
theorem shaped_of {d : PyData} (h1 : d.canLay0 = true) (h2 : d.depth ≤ 64) : SeqAt.shaped d = true := by
  show (d.canLay0 && decide (d.depth ≤ 64)) = true
  rw [h1, decide_eq_true h2]
  rfl
theorem sh_N (l : List Nat) : SeqAt.shaped (dN l) = true := by
  refine shaped_of ?_ ?_
  · show PyData.canLay0 (.list _) = true
    simp only [PyData.canLay0]
    exact lay_ints l
  · show PyData.depth (.list _) ≤ 64
    have := dep_ints l
    simp only [PyData.depth]
    omega
theorem eqv_ints : ∀ l m : List Nat, PyData.eqvAll (l.map fun x : Nat => PyData.int (x : Int)) (m.map fun x : Nat => PyData.int (x : Int)) = decide (l = m)
  | [], [] => rfl
  | [], _ :: _ => rfl
  | _ :: _, [] => rfl
  | x :: l, y :: m => by
    show (((x : Int) == (y : Int)) && PyData.eqvAll _ _) = _
    rw [eqv_ints l m]
    by_cases e : x = y
    · subst e
      simp
    · have : ((x : Int) == (y : Int)) = false := beq_eq_false_iff_ne.mpr (by omega)
      rw [this, Bool.false_and]
      exact (decide_eq_false fun q => e (List.cons.inj q).1).symm
theorem eqv_N (l m : List Nat) : PyData.eqv (dN l) (dN m) = decide (l = m) := eqv_ints l m
def dNN (rows : List (List Nat)) : PyData := .list (rows.map dN)
theorem dp_rows {K : PySem.W.Frag} {H : Hp} : ∀ {as : List Addr} {rows : List (List Nat)}, Rows H as rows → DpAll K H (as.map V.ref) (rows.map dN)
  | [], [], _ => .nil
  | [], _ :: _, h => by cases h.1
  | _ :: _, [], h => by cases h.1
  | a :: as, r :: rows, h => .cons (dp_N (h.2 0 a r rfl rfl)) (dp_rows ⟨by have := h.1; simpa using this, fun i p q a b => h.2 (i + 1) p q a b⟩)
theorem dp_NN {K : PySem.W.Frag} {H : Hp} {a : Addr} {rows : List (List Nat)} (h : LLat H a rows) : Dp K H (.ref a) (dNN rows) := let ⟨_, h1, h2⟩ := h; .lst (SqL.of h1) (dp_rows h2)
theorem lay_NN : ∀ rows : List (List Nat), PyData.canLayAll0 (rows.map dN) = true
  | [] => by simp [PyData.canLayAll0]
  | r :: rows => by
    have h : (dN r).canLay0 = true := SeqAt.canLay_of_shaped (sh_N r)
    simp [PyData.canLayAll0, h, lay_NN rows]
theorem dep_NN : ∀ rows : List (List Nat), PyData.depthAll (rows.map dN) ≤ 3
  | [] => by simp [PyData.depthAll]
  | r :: rows => by
    have h1 := dep_NN rows
    have h2 : (dN r).depth ≤ 2 := by
      have := dep_ints r
      show PyData.depth (.list _) ≤ 2
      simp only [PyData.depth]
      omega
    simp only [List.map_cons, PyData.depthAll]
    omega
theorem sh_NN (rows : List (List Nat)) : SeqAt.shaped (dNN rows) = true := by
  refine shaped_of ?_ ?_
  · show PyData.canLay0 (.list _) = true
    simp only [PyData.canLay0]
    exact lay_NN rows
  · show PyData.depth (.list _) ≤ 64
    have := dep_NN rows
    simp only [PyData.depth]
    omega
theorem any_NN (rows : List (List Nat)) (l : List Nat) : ((rows.map dN).any fun z => PyData.eqv z (dN l)) = decide (l ∈ rows) := by
  induction rows with
  | nil => rfl
  | cons r rows ih =>
    rw [List.map_cons, List.any_cons, ih, eqv_N]
    by_cases e : r = l
    · subst e
      simp
    · simp [e, Ne.symm e]

/-! ### the law's own promises -/
/-- the law's box: where it reads, what is left of a great number, the seed, how many draws; then the script's numbers -/
def BoxAt (H : Hp) (b : Addr) : Prop := ∃ (p r s c : Int) (cells : List Int), H b = some (.lst ((p :: r :: s :: c :: cells).map V.int)) ∧ 0 ≤ p ∧ 0 ≤ r
/-- the box has turned, all else stands -/
def Bx (b : Addr) (H H' : Hp) : Prop := Same (rm b H) (rm b H') ∧ BoxAt H' b
theorem BoxAt.some {H : Hp} {b : Addr} (h : BoxAt H b) : ∃ o, H b = some o := let ⟨_, _, _, _, _, h, _⟩ := h; ⟨_, h⟩
theorem BoxAt.ne {H : Hp} {b p : Addr} (h : BoxAt H b) (hp : H p = Option.none) : p ≠ b := fun e => by
  obtain ⟨o, q⟩ := h.some
  rw [e, q] at hp
  cases hp
theorem BoxAt.mono {H H' : Hp} {b : Addr} (e : Same H H') (h : BoxAt H b) : BoxAt H' b := let ⟨p, r, s, c, cs, h, q⟩ := h; ⟨p, r, s, c, cs, e _ _ h, q⟩
theorem Bx.refl {H : Hp} {b : Addr} (h : BoxAt H b) : Bx b H H := ⟨Same.refl _, h⟩
theorem Bx.trans {H H1 H2 : Hp} {b : Addr} (h : Bx b H H1) (h' : Bx b H1 H2) : Bx b H H2 := ⟨h.1.trans h'.1, h'.2⟩
theorem Bx.grow {H H1 H2 : Hp} {b : Addr} (h : Bx b H H1) (e : Same H1 H2) : Bx b H H2 := ⟨h.1.trans (rm_same e), h.2.mono e⟩
theorem Bx.of {H H' : Hp} {b : Addr} (h : BoxAt H b) (e : Same H H') : Bx b H H' := (Bx.refl h).grow e
theorem Bx.free {H H' : Hp} {b p : Addr} (h : Bx b H H') (hp : H' p = Option.none) : H p = Option.none := by
  have n := h.2.ne hp
  have q : rm b H p = Option.none := h.1.free (rm_none hp)
  cases e : H p with
  | none => rfl
  | some o =>
    rw [rm_of e n] at q
    cases q
def sp__law_mixed (K : PySem.W.Frag) : Sp := fun vs H Q _ => ∃ s t : Int, vs = [.int s, .int t] ∧ ∀ r : Int, Q (.int r) H
def sp__law_take (K : PySem.W.Frag) : Sp := fun vs H Q _ => ∃ (b : Addr) (m : Int), vs = [.ref b, .int m] ∧ BoxAt H b ∧ 0 < m ∧ m < 1000000000 ∧ ∀ (d : Nat) (H' : Hp), (d : Int) < m → Bx b H H' → Q (vN d) H'
def sp__law_box (K : PySem.W.Frag) : Sp := fun vs H Q _ => ∃ (a : Addr) (ns : List Int), vs = [.ref a] ∧ SqL K H a (ns.map V.int) ∧ ns.length ≤ 63 ∧ ∀ b H', H b = Option.none → Same H H' → BoxAt H' b → Q (.ref b) H'
def sp__law_line (K : PySem.W.Frag) : Sp := fun vs H Q _ => ∃ (b : Addr) (n : Nat), vs = [.ref b, vN n] ∧ BoxAt H b ∧ n ≤ 16 ∧
  ∀ (p : Addr) (l : List Nat) (H' : Hp), l.Perm (List.range n) → Bx b H H' → H p = Option.none → rm b H' p = some (.lst (vNs l)) → Q (.ref p) H'
/-- wires along a line: each leads from an earlier lamp of it to a later one, none is there twice -/
structure WsOk (line : List Nat) (ws : List (Nat × Nat)) : Prop where
  nd : ws.Nodup
  dn : ∀ u w, (u, w) ∈ ws → ∃ i j : Nat, i < j ∧ line[i]? = some u ∧ line[j]? = some w
def vW (p : Nat × Nat) : List V := [vN p.1, vN p.2]
/-- a list of wires -/
def WRows (H : Hp) (as : List Addr) (ws : List (Nat × Nat)) : Prop := as.length = ws.length ∧ ∀ (i : Nat) (p : Addr) (w : Nat × Nat), as[i]? = some p → ws[i]? = some w → H p = some (.tup (vW w))
theorem WRows.mono {H H' : Hp} {as : List Addr} {ws : List (Nat × Nat)} (e : Same H H') (h : WRows H as ws) : WRows H' as ws := ⟨h.1, fun i p r a b => e _ _ (h.2 i p r a b)⟩
def WiresAt (H : Hp) (a : Addr) (ws : List (Nat × Nat)) : Prop := ∃ as : List Addr, H a = some (.lst (as.map V.ref)) ∧ WRows H as ws
theorem WiresAt.mono {H H' : Hp} {a : Addr} {ws : List (Nat × Nat)} (e : Same H H') (h : WiresAt H a ws) : WiresAt H' a ws := let ⟨as, h1, h2⟩ := h; ⟨as, e _ _ h1, h2.mono e⟩
def sp__law_wires (K : PySem.W.Frag) : Sp := fun vs H Q _ => ∃ (b l : Addr) (line : List Nat) (n : Nat), vs = [.ref b, .ref l] ∧ BoxAt H b ∧ rm b H l = some (.lst (vNs line)) ∧ line.Perm (List.range n) ∧ 1 ≤ n ∧ n ≤ 16 ∧
  ∀ (p : Addr) (ws : List (Nat × Nat)) (H' : Hp), WsOk line ws → ws.length ≤ 256 → Bx b H H' → WiresAt (rm b H') p ws → Q (.ref p) H'
/-- a path along wires -/
inductive Path (ws : List (Nat × Nat)) : Nat → Nat → Prop where
  | one {x y : Nat} (h : (x, y) ∈ ws) : Path ws x y
  | cons {x y z : Nat} (h : (x, y) ∈ ws) (t : Path ws y z) : Path ws x z
open Classical in
/-- what hangs beneath what -/
noncomputable def bel (ws : List (Nat × Nat)) : Bel := fun x y => decide (Path ws x y)
def sp__law_below (K : PySem.W.Frag) : Sp := fun vs H Q _ => ∃ (l a : Addr) (line : List Nat) (n : Nat) (ws : List (Nat × Nat)), vs = [.ref l, .ref a] ∧ H l = some (.lst (vNs line)) ∧ line.Perm (List.range n) ∧ n ≤ 16 ∧ WiresAt H a ws ∧ WsOk line ws ∧
  ∀ (p : Addr) (as : List Addr) (H' : Hp), H p = Option.none → (∀ q ∈ as, H q = Option.none) → Same H H' → H' p = some (.lst (as.map V.ref)) → Rows H' as (belRows (bel ws) n) → Q (.ref p) H'
def sp__law_house (K : PySem.W.Frag) : Sp := fun vs H Q _ => ∃ (b a : Addr) (n : Nat) (h : Int) (line : List Nat) (ws : List (Nat × Nat)), vs = [.ref b, vN n, .int h, .ref a] ∧ BoxAt H b ∧ WiresAt (rm b H) a ws ∧ line.Perm (List.range n) ∧ WsOk line ws ∧ ws.length ≤ 256 ∧ 1 ≤ n ∧ n ≤ 16 ∧ 2 ≤ h ∧ h ≤ 10 ∧
  ∀ (p : Addr) (H' : Hp), Bx b H H' → HouseAt K (rm b H') p (bel ws) n h → Q (.ref p) H'
def sp__law_state (K : PySem.W.Frag) : Sp := fun vs H Q _ => ∃ (b : Addr) (n : Nat) (h : Int), vs = [.ref b, vN n, .int h] ∧ BoxAt H b ∧ n ≤ 16 ∧ 2 ≤ h ∧ h ≤ 10 ∧ ∀ (p : Addr) (s : Nat → Int) (H' : Hp), Bx b H H' → StOk (rm b H') p n h s → Q (.ref p) H'
def sp__law_step (K : PySem.W.Frag) : Sp := fun vs H Q _ => ∃ (bl t : Addr) (v : Nat) (B : Bel) (n : Nat) (h : Int) (s : Nat → Int), vs = [.int h, .ref bl, .ref t, vN v] ∧ LLat H bl (belRows B n) ∧ (∀ w, B w w = false) ∧ n ≤ 16 ∧ 2 ≤ h ∧ StOk H t n h s ∧ v < n ∧ s v ≠ 0 ∧ RetN H Q (.tup (stV n (mv B h s v)))
def sp__law_same (K : PySem.W.Frag) : Sp := fun vs H Q _ => ∃ (p q : Addr) (n : Nat) (s : Nat → Int), vs = [.ref p, .ref q] ∧ H p = some (.tup (stV n s)) ∧ H q = some (.tup (stV n s)) ∧ n ≤ 16 ∧ Q (.bl true) H
def sp__law_listed (K : PySem.W.Frag) : Sp := fun vs H Q _ => ∃ (p q : Addr) (l : List Nat), vs = [.ref p, .ref q] ∧ H p = some (.lst (vNs l)) ∧ H q = some (.lst (vNs l)) ∧ l.length ≤ 1000 ∧ Q (.bl true) H
def sp__law_rows (K : PySem.W.Frag) : Sp := fun vs H Q _ => ∃ (p q : Addr) (rows : List (List Nat)), vs = [.ref p, .ref q] ∧ LLat H p rows ∧ LLat H q rows ∧ rows.length ≤ 1000 ∧ (∀ r ∈ rows, r.length ≤ 1000) ∧ Q (.bl true) H
/-- the plan of a world -/
structure PlanAt (H : Hp) (p : Addr) (n : Nat) (h : Int) (line : List Nat) (ws : List (Nat × Nat)) (s : Nat → Int) : Prop where
  ex : ∃ la wa sa : Addr, H p = some (.tup [.int h, .ref la, .ref wa, .ref sa]) ∧ H la = some (.lst (vNs line)) ∧ WiresAt H wa ws ∧ StOk H sa n h s
  pm : line.Perm (List.range n)
  ok : WsOk line ws
  wl : ws.length ≤ 256
  n16 : 1 ≤ n ∧ n ≤ 16
  h10 : 2 ≤ h ∧ h ≤ 10
theorem PlanAt.mono {H H' : Hp} {p : Addr} {n : Nat} {h : Int} {line : List Nat} {ws : List (Nat × Nat)} {s : Nat → Int} (e : Same H H') (x : PlanAt H p n h line ws s) : PlanAt H' p n h line ws s := by
  obtain ⟨⟨la, wa, sa, h1, h2, h3, h4⟩, a, b, c, d, f⟩ := x
  exact ⟨⟨la, wa, sa, e _ _ h1, e _ _ h2, h3.mono e, h4.mono e⟩, a, b, c, d, f⟩
def RetPlan (b : Addr) (H : Hp) (Q : VK) : Prop := ∀ (p : Addr) (n : Nat) (h : Int) (line : List Nat) (ws : List (Nat × Nat)) (s : Nat → Int) (H' : Hp), Bx b H H' → PlanAt (rm b H') p n h line ws s → Q (.ref p) H'
def sp__law_plan (K : PySem.W.Frag) : Sp := fun vs H Q _ => ∃ b : Addr, vs = [.ref b] ∧ BoxAt H b ∧ RetPlan b H Q
def sp__law_second (K : PySem.W.Frag) : Sp := fun vs H Q _ => ∃ (b p : Addr) (n : Nat) (h : Int) (line : List Nat) (ws : List (Nat × Nat)) (s : Nat → Int), vs = [.ref b, .ref p] ∧ BoxAt H b ∧ PlanAt (rm b H) p n h line ws s ∧ RetPlan b H Q
/-- a world: the house, its hues, what hangs beneath each lamp, a state -/
structure WorldAt (K : PySem.W.Frag) (H : Hp) (p : Addr) (B : Bel) (n : Nat) (h : Int) (s : Nat → Int) : Prop where
  ex : ∃ ha bl sa : Addr, H p = some (.tup [.ref ha, .int h, .ref bl, .ref sa]) ∧ HouseAt K H ha B n h ∧ LLat H bl (belRows B n) ∧ StOk H sa n h s
  ir : ∀ w, B w w = false
theorem WorldAt.mono {K : PySem.W.Frag} {H H' : Hp} {p : Addr} {B : Bel} {n : Nat} {h : Int} {s : Nat → Int} (e : Same H H') (x : WorldAt K H p B n h s) : WorldAt K H' p B n h s := by
  obtain ⟨⟨ha, bl, sa, h1, h2, h3, h4⟩, a⟩ := x
  exact ⟨⟨ha, bl, sa, e _ _ h1, h2.mono e, h3.mono e, h4.mono e⟩, a⟩
def sp__law_world (K : PySem.W.Frag) : Sp := fun vs H Q _ => ∃ (b p : Addr) (n : Nat) (h : Int) (line : List Nat) (ws : List (Nat × Nat)) (s : Nat → Int), vs = [.ref b, .ref p] ∧ BoxAt H b ∧ PlanAt (rm b H) p n h line ws s ∧
  ∀ (q : Addr) (B : Bel) (H' : Hp), Bx b H H' → WorldAt K (rm b H') q B n h s → Q (.ref q) H'
/-- an odd lamp -/
inductive OddV (H : Hp) (n : Nat) : V → Prop where
  | int (i : Int) (h : i < 0 ∨ (n : Int) ≤ i) (h' : -10 < i ∧ i < 200) : OddV H n (.int i)
  | bl (b : Bool) : OddV H n (.bl b)
  | non : OddV H n .non
  | str : OddV H n (.str "0")
  | tup {a : Addr} (h : H a = some (.tup [.int 0])) : OddV H n (.ref a)
theorem OddV.mono {H H' : Hp} {n : Nat} {x : V} (e : Same H H') (h : OddV H n x) : OddV H' n x := by
  cases h with
  | int i h h' => exact .int i h h'
  | bl b => exact .bl b
  | non => exact .non
  | str => exact .str
  | tup h => exact .tup (e _ _ h)
theorem OddV.pl {H : Hp} {n : Nat} {x : V} (h : OddV H n x) : PlV H x := by
  cases h with
  | int i h h' => exact .int i
  | bl b => exact .bl b
  | non => exact .non
  | str => exact .str _
  | tup h => exact .tup h
theorem OddV.no {H : Hp} {n : Nat} {x : V} (h : OddV H n x) : isLampV n x = false := by
  cases h with
  | int i h h' =>
    show (decide (0 ≤ i) && decide (i < n)) = false
    rcases h with h | h
    · rw [decide_eq_false (by omega), Bool.false_and]
    · rw [decide_eq_false (p := i < n) (by omega), Bool.and_false]
  | bl b => rfl
  | non => rfl
  | str => rfl
  | tup h => rfl
def sp__law_odd_lamp (K : PySem.W.Frag) : Sp := fun vs H Q _ => ∃ (b : Addr) (n : Nat), vs = [.ref b, vN n] ∧ BoxAt H b ∧ 1 ≤ n ∧ n ≤ 16 ∧ ∀ (x : V) (H' : Hp), Bx b H H' → OddV (rm b H') n x → Q x H'
def sp__law_wrong (K : PySem.W.Frag) : Sp := fun vs H Q _ => ∃ (bl t : Addr) (v : Nat) (g : Bool) (B : Bel) (n : Nat) (h : Int) (s : Nat → Int), vs = [.ref bl, .ref t, vN v, .bl g] ∧ LLat H bl (belRows B n) ∧ StOk H t n h s ∧ v < n ∧ n ≤ 16 ∧
  ∀ (p : Addr) (ds : List Nat) (H' : Hp), Same H H' → H' p = some (.tup (vNs ds)) → ds.isEmpty = okm B n g s v → Q (.ref p) H'
def sp__law_lamps (K : PySem.W.Frag) : Sp := fun vs H Q _ => ∃ (b p : Addr) (B : Bel) (n : Nat) (h : Int) (s : Nat → Int) (most : Nat), vs = [.ref b, .ref p, vN most] ∧ BoxAt H b ∧ WorldAt K (rm b H) p B n h s ∧ most ≤ 40 ∧
  ∀ (q : Addr) (l : List Nat) (H' : Hp), l.length ≤ most → (∀ x ∈ l, x < n) → Bx b H H' → rm b H' q = some (.lst (vNs l)) → Q (.ref q) H'
def sp__law_apart (K : PySem.W.Frag) : Sp := fun vs H Q _ => ∃ (bl : Addr) (x y : Nat) (B : Bel) (n : Nat), vs = [.ref bl, vN x, vN y] ∧ LLat H bl (belRows B n) ∧ x < n ∧ y < n ∧ Q (.bl (apart B x y)) H
def sp__law_neighbours (K : PySem.W.Frag) : Sp := fun vs H Q _ => ∃ (bl r : Addr) (l : List Nat) (B : Bel) (n : Nat), vs = [.ref bl, .ref r] ∧ LLat H bl (belRows B n) ∧ H r = some (.lst (vNs l)) ∧ (∀ x ∈ l, x < n) ∧ l.length ≤ 1000 ∧
  ∀ (p : Addr) (as : List Addr) (H' : Hp), H p = Option.none → (∀ q ∈ as, H q = Option.none) → Same H H' → H' p = some (.lst (as.map V.ref)) → Rows H' as (nbrs B l) → Q (.ref p) H'
def sp__law_swaps (K : PySem.W.Frag) : Sp := fun vs H Q _ => ∃ (bl r : Addr) (l : List Nat) (B : Bel) (n : Nat), vs = [.ref bl, .ref r] ∧ LLat H bl (belRows B n) ∧ H r = some (.lst (vNs l)) ∧ (∀ x ∈ l, x < n) ∧ l.length ≤ 5 ∧
  ∀ (p : Addr) (as : List Addr) (H' : Hp), H p = Option.none → (∀ q ∈ as, H q = Option.none) → Same H H' → H' p = some (.lst (as.map V.ref)) → Rows H' as (swapsOf B l) → Q (.ref p) H'
/-- the law's test of agreement -/
def agB (B : Bel) (n : Nat) (l m : List Nat) : Bool := (List.range n).all fun x => (List.range (x + 1)).all fun y => apart B x y || decide (kp x y l = kp x y m)
def sp__law_agree (K : PySem.W.Frag) : Sp := fun vs H Q _ => ∃ (bl r1 r2 : Addr) (l m : List Nat) (B : Bel) (n : Nat), vs = [.ref bl, .ref r1, .ref r2] ∧ LLat H bl (belRows B n) ∧ H r1 = some (.lst (vNs l)) ∧ H r2 = some (.lst (vNs m)) ∧ l.length ≤ 1000 ∧ m.length ≤ 1000 ∧ n ≤ 16 ∧
  ∀ H', Same H H' → Q (.bl (agB B n l m)) H'
def sp__law_sorted (K : PySem.W.Frag) : Sp := fun vs H Q _ => ∃ (bl r : Addr) (l : List Nat) (B : Bel) (n : Nat), vs = [.ref bl, .ref r] ∧ LLat H bl (belRows B n) ∧ H r = some (.lst (vNs l)) ∧ (∀ x ∈ l, x < n) ∧ l.length ≤ 1000 ∧ n ≤ 16 ∧
  RetN H Q (.lst (vNs (sf B n l)))
def sp__law_shuffled (K : PySem.W.Frag) : Sp := fun vs H Q _ => ∃ (b bl r : Addr) (l : List Nat) (B : Bel) (n : Nat), vs = [.ref b, .ref bl, .ref r] ∧ BoxAt H b ∧ LLat (rm b H) bl (belRows B n) ∧ rm b H r = some (.lst (vNs l)) ∧ (∀ x ∈ l, x < n) ∧ l.length ≤ 100 ∧
  ∀ (p : Addr) (m : List Nat) (H' : Hp), Agree B l m → Bx b H H' → rm b H' p = some (.lst (vNs m)) → Q (.ref p) H'
def sp__law_other (K : PySem.W.Frag) : Sp := fun vs H Q _ => ∃ (b bl r : Addr) (l : List Nat) (B : Bel) (n : Nat), vs = [.ref b, .ref bl, .ref r] ∧ BoxAt H b ∧ LLat (rm b H) bl (belRows B n) ∧ rm b H r = some (.lst (vNs l)) ∧ (∀ x ∈ l, x < n) ∧ 1 ≤ n ∧ n ≤ 16 ∧ l.length ≤ 100 ∧
  ∀ (p : Addr) (m : List Nat) (H' : Hp), (∀ x ∈ m, x < n) → m.length ≤ 100 → Bx b H H' → rm b H' p = some (.lst (vNs m)) → Q (.ref p) H'
/-- a house and its law's list of what hangs beneath -/
structure Pair (K : PySem.W.Frag) (H : Hp) (a bl : Addr) (B : Bel) (n : Nat) (h : Int) : Prop where
  ho : HouseAt K H a B n h
  be : LLat H bl (belRows B n)
def sp__law_listing (K : PySem.W.Frag) : Sp := fun vs H Q _ => ∃ (a bl r : Addr) (l : List Nat) (B : Bel) (n : Nat) (h : Int), vs = [.ref a, .ref bl, .ref r] ∧ HouseAt K H a B n h ∧ LLat H bl (belRows B n) ∧ H r = some (.lst (vNs l)) ∧ (∀ x ∈ l, x < n) ∧ l.length ≤ 100 ∧
  ∀ H', Same H H' → Q (.bl true) H'
def sp__law_form (K : PySem.W.Frag) : Sp := fun vs H Q _ => ∃ (a r d : Addr) (l : List Nat) (B : Bel) (n : Nat) (h : Int), vs = [.ref a, .ref r, .ref d] ∧ HouseAt K H a B n h ∧ (∀ w, B w w = false) ∧ H r = some (.lst (vNs l)) ∧ H d = some (.lst (vNs (sf B n l))) ∧ (∀ x ∈ l, x < n) ∧ l.length ≤ 100 ∧
  ∀ H', Same H H' → Q (.bl true) H'
def sp__law_pair (K : PySem.W.Frag) : Sp := fun vs H Q _ => ∃ (a r1 r2 : Addr) (l m : List Nat) (k : Bool) (B : Bel) (n : Nat) (h : Int), vs = [.ref a, .ref r1, .ref r2, .bl k] ∧ HouseAt K H a B n h ∧ (∀ w, B w w = false) ∧ H r1 = some (.lst (vNs l)) ∧ H r2 = some (.lst (vNs m)) ∧ (∀ x ∈ l, x < n) ∧ (∀ x ∈ m, x < n) ∧ l.length ≤ 100 ∧ m.length ≤ 100 ∧
  (k = true ↔ Agree B l m) ∧ ∀ H', Same H H' → Q (.bl true) H'
def sp__law_played (K : PySem.W.Frag) : Sp := fun vs H Q _ => ∃ (p r1 r2 : Addr) (l m : List Nat) (B : Bel) (n : Nat) (h : Int) (s : Nat → Int), vs = [.ref p, .ref r1, .ref r2] ∧ WorldAt K H p B n h s ∧ H r1 = some (.lst (vNs l)) ∧ H r2 = some (.lst (vNs m)) ∧ (∀ x ∈ l, x < n) ∧ l.length ≤ 100 ∧ Agree B l m ∧
  ∀ H', Same H H' → Q (.bl true) H'
def sp__law_short (K : PySem.W.Frag) : Sp := fun vs H Q _ => ∃ (b p r : Addr) (l : List Nat) (B : Bel) (n : Nat) (h : Int) (s : Nat → Int), vs = [.ref b, .ref p, .ref r] ∧ BoxAt H b ∧ WorldAt K (rm b H) p B n h s ∧ rm b H r = some (.lst (vNs l)) ∧ (∀ x ∈ l, x < n) ∧ l.length ≤ 5 ∧
  ∀ H', Bx b H H' → Q (.bl true) H'
def sp__law_long (K : PySem.W.Frag) : Sp := fun vs H Q _ => ∃ (b p r : Addr) (l : List Nat) (B : Bel) (n : Nat) (h : Int) (s : Nat → Int), vs = [.ref b, .ref p, .ref r] ∧ BoxAt H b ∧ WorldAt K (rm b H) p B n h s ∧ rm b H r = some (.lst (vNs l)) ∧ (∀ x ∈ l, x < n) ∧ l.length ≤ 40 ∧
  ∀ H', Bx b H H' → Q (.bl true) H'
/-- how an odd lamp is written -/
def reprV : V → Str
  | .int i => toString i
  | .bl true => "True"
  | .bl false => "False"
  | .non => "None"
  | .str x => reprText x
  | _ => (PyData.tuple [.int 0]).shown
/-- the first value that is no lamp, of the first list ahead of the second -/
def firstBad (n : Nat) (xs ys : List V) (way : Int) : Option V := if way = 0 then (badV n xs).or (badV n ys) else badV n xs
def sp__law_fault (K : PySem.W.Frag) : Sp := fun vs H Q _ => ∃ (a r1 r2 : Addr) (xs ys : List V) (way : Int) (B : Bel) (n : Nat) (h : Int) (x : V), vs = [.ref a, .ref r1, .ref r2, .int way] ∧ HouseAt K H a B n h ∧ H r1 = some (.lst xs) ∧ H r2 = some (.lst ys) ∧ (∀ x ∈ xs, PlV H x) ∧ (∀ x ∈ ys, PlV H x) ∧ xs.length ≤ 1000 ∧ ys.length ≤ 1000 ∧
  0 ≤ way ∧ way ≤ 2 ∧ firstBad n xs ys way = some x ∧ OddV H n x ∧ ∀ (p : Addr) (H' : Hp), Same H H' → H' p = some (.tup [.int 1, .str (reprV x)]) → Q (.ref p) H'
def sp__law_faults (K : PySem.W.Frag) : Sp := fun vs H Q _ => ∃ (b a r : Addr) (l : List Nat) (B : Bel) (n : Nat) (h : Int), vs = [.ref b, .ref a, vN n, .ref r] ∧ BoxAt H b ∧ HouseAt K (rm b H) a B n h ∧ rm b H r = some (.lst (vNs l)) ∧ (∀ x ∈ l, x < n) ∧ l.length ≤ 100 ∧
  ∀ H', Bx b H H' → Q (.bl true) H'
def sp_law (K : PySem.W.Frag) : Sp := fun vs H Q _ => ∃ (a : Addr) (ns : List Int), vs = [.ref a] ∧ SqL K H a (ns.map V.int) ∧ ns.length ≤ 63 ∧ ∀ H', Q (.bl true) H'
end Hue
end
section
set_option maxHeartbeats 4000000
namespace Hue
open PySem PySem.Spec PyProof.Rows L2
/-! ### further readings -/
def tClK (sp : Sp) (E : XK) (t tk : TA) : TE := tCallN 3 1 sp (fun vs zs => vs ++ zs) E t tk
theorem hu65 {A : Around} {k : Nat} (hr : Room k A) : A.units + 65 < cLine := by
  have := hr.un
  omega
/-- min of a list of lists -/
def rMinL (K : PySem.W.Frag) : List V → Hp → VK → Prop := fun vs H Q => ∃ (p : Addr) (as : List Addr) (rows : List (List Nat)), vs = [.ref p] ∧ SqL K H p (as.map V.ref) ∧ Rows H as rows ∧ rows ≠ [] ∧ rows.length ≤ 16000000 ∧ (∀ r ∈ rows, r.length ≤ 1000) ∧
  ∀ (i : Nat) (q : Addr) (r : List Nat), as[i]? = some q → rows[i]? = some r → (∀ m ∈ rows, llt m r = false) → Q (.ref q) H
/-- sorted of wires -/
def rSrt (K : PySem.W.Frag) : List V → Hp → VK → Prop := fun vs H Q => ∃ (p : Addr) (as : List Addr) (ws : List (Nat × Nat)), vs = [.ref p] ∧ Seq K H p (as.map V.ref) ∧ WRows H as ws ∧ ws.length ≤ 1000 ∧
  ∀ (q : Addr) (bs : List Addr), H q = Option.none → bs.Perm as → Q (.ref q) (upd H q (.lst (bs.map V.ref)))
/-- repr of an odd lamp -/
def rRepr (K : PySem.W.Frag) : List V → Hp → VK → Prop := fun vs H Q => ∃ (x : V) (n : Nat), vs = [x] ∧ OddV H n x ∧ Q (.str (reprV x)) H
/-- House(count, hues), House(count, hues, wires) -/
def HOk3 (K : PySem.W.Frag) (n : Nat) (h : Int) (a : Addr) (as : List Addr) (line : List Nat) (ws : List (Nat × Nat)) (H : Hp) : Prop :=
  Seq K H a (as.map V.ref) ∧ WRows H as ws ∧ line.Perm (List.range n) ∧ WsOk line ws ∧ ws.length ≤ 256 ∧ 1 ≤ n ∧ n ≤ 16 ∧ 2 ≤ h ∧ h ≤ 10
def tMkH3 (K : PySem.W.Frag) (t : TA) : TE := fun σ H Q => t σ H fun vs H1 => ∃ (n : Nat) (h : Int) (a : Addr) (as : List Addr) (line : List Nat) (ws : List (Nat × Nat)), vs = [vN n, .int h, .ref a] ∧ HOk3 K n h a as line ws H1 ∧
  ∀ (p : Addr) (H' : Hp), Same H1 H' → (∀ b o, H1 b = some o → HouseAt K (rm b H') p (bel ws) n h) → Q (.ref p) H'
def tMkH2 (K : PySem.W.Frag) (t : TA) : TE := fun σ H Q => t σ H fun vs H1 => ∃ (n : Nat) (h : Int), vs = [vN n, .int h] ∧ 1 ≤ n ∧ n ≤ 16 ∧ 2 ≤ h ∧ h ≤ 10 ∧
  ∀ (p : Addr) (H' : Hp), Same H1 H' → (∀ b o, H1 b = some o → HouseAt K (rm b H') p (bel []) n h) → Q (.ref p) H'
/-- House.__init__ at the new instance x, whose class is C -/
structure HCls (K : PySem.W.Frag) (C : Addr) : Prop where
  cl : Cls K C
  n_below_masks : NoAttr K C "_below_masks"
  n_above_masks : NoAttr K C "_above_masks"
  n_below : NoAttr K C "_below"
  n_above : NoAttr K C "_above"
  n_order : NoAttr K C "_order"
  n_count : NoAttr K C "count"
  n_hues : NoAttr K C "hues"
  n_wires : NoAttr K C "wires"
  n_direct : NoAttr K C "_direct"
/-- the class's two constants -/
structure HMost (K : PySem.W.Frag) (cH : Addr) : Prop where
  l : ∃ mc u, ClX.CRead K cH mc ∧ ClX.CVal K cH mc "MOST_LAMPS" (.int 16) u
  h : ∃ mc u, ClX.CRead K cH mc ∧ ClX.CVal K cH mc "MOST_HUES" (.int 10) u
/-- the tuple at a as it stands at each turn, each item in a new pair -/
def IteT (K : PySem.W.Frag) (a : Addr) : It :=
  ⟨fun i H => ∃ (xs : List V) (x : V), SqT K H a xs ∧ xs[i]? = some x, fun i H v H' => ∃ T x, v = .ref T ∧ H T = none ∧ H' = upd H T (.tup [.int (i : Nat), x]) ∧ ∀ xs, SqT K H a xs → xs[i]? = some x, fun i H => ∃ xs : List V, SqT K H a xs ∧ xs.length = i⟩
/-- enumerate of a list or a tuple -/
def iEnumQ (K : PySem.W.Frag) (ta : TA) : TI := fun σ H R => ta σ H fun vs H1 => ∃ a xs, vs = [.ref a] ∧ ((SqL K H1 a xs ∧ R (Ite K a) H1) ∨ (SqT K H1 a xs ∧ R (IteT K a) H1))
theorem walk_enumT {K : PySem.W.Frag} {a : Addr} {xs : List V} : Walk (IteT K a) xs.length (fun H => SqT K H a xs) (YPair (fun i => some (.int (i : Nat))) (fun i => xs[i]?)) := by
  refine ⟨fun i _ hi q => ⟨xs, xs[i], q, by simp [hi]⟩, fun _ q => ⟨xs, q, rfl⟩, fun i H v H' _ q y => ?_⟩
  obtain ⟨T, x, h1, h2, h3, h4⟩ := y
  exact ⟨T, .int (i : Nat), x, h1, h2, h3, rfl, h4 xs q⟩
def sp_hinit (K : PySem.W.Frag) (cH : Addr) : Sp := fun vs H Q _ => ∃ (H0 : Hp) (C x dx a : Addr) (n : Nat) (h : Int) (as : List Addr) (line : List Nat) (ws : List (Nat × Nat)), vs = [.ref x, vN n, .int h, .ref a] ∧ HCls K C ∧ HMost K cH ∧ Same H0 H ∧ H0 x = Option.none ∧ H0 dx = Option.none ∧ dx ≠ x ∧ H x = some (.ins C dx []) ∧ H dx = some (.own x) ∧ HOk3 K n h a as line ws H0 ∧
  ∀ H', Same H0 H' → (∀ b o, H0 b = some o → HouseAt K (rm b H') x (bel ws) n h) → Q .non H'
def sp__is_wire (K : PySem.W.Frag) : Sp := fun vs H Q _ => ∃ (n : Nat) (a : Addr) (u w : Nat), vs = [vN n, .ref a] ∧ H a = some (.tup (vW (u, w))) ∧ u < n ∧ w < n ∧ u ≠ w ∧ Q (.bl true) H
def sp__join_wires (K : PySem.W.Frag) : Sp := fun vs H Q _ => ∃ (n : Nat) (h : Int) (a : Addr) (as : List Addr) (line : List Nat) (ws : List (Nat × Nat)), vs = [vN n, .ref a] ∧ HOk3 K n h a as line ws H ∧
  ∀ (p : Addr) (H' : Hp), H p = Option.none → Same H H' → Masks H' p n (bel ws) → Q (.ref p) H'
def sp__turn_round (K : PySem.W.Frag) : Sp := fun vs H Q _ => ∃ (a : Addr) (B : Bel) (n : Nat), vs = [.ref a] ∧ Masks H a n B ∧ n ≤ 16 ∧ (∀ v w, B v w = true → v < n ∧ w < n) ∧ ∀ (p : Addr) (H' : Hp), H p = Option.none → Same H H' → Masks H' p n (rev B) → Q (.ref p) H'
def sp__order_list (K : PySem.W.Frag) : Sp := fun vs H Q _ => ∃ (a : Addr) (B : Bel) (n : Nat) (line : List Nat), vs = [.ref a] ∧ Masks H a n (rev B) ∧ n ≤ 16 ∧ line.Perm (List.range n) ∧ (∀ v w, B v w = true → ∃ i j : Nat, i < j ∧ line[i]? = some v ∧ line[j]? = some w) ∧ ∀ (p : Addr) (H' : Hp), H p = Option.none → Same H H' → Q (.ref p) H'
/-- raise InvalidLamp(e) -/
def tRaiseIL (K : PySem.W.Frag) (E : XK) (te : TE) : TS := fun _ σ H => te σ H fun x H1 => RaisesIL K H1 E x
/-- {tuple: v} -/
def kL (l : List Nat) : List Key := l.map fun x : Nat => (Sum.inl (x : Int) : Key)
def tDisp1 (tk tv : TE) : TE := fun σ H Q => ∀ p, H p = Option.none → tk σ (upd H p (.dT [])) fun x H1 => tv σ H1 fun y H2 => ∃ (b : Addr) (l : List Nat), x = .ref b ∧ H2 b = some (.tup (vNs l)) ∧ H2 p = some (.dT []) ∧ Q (.ref p) (upd H2 p (.dT [(kL l, y)]))
end Hue
end
section
set_option maxHeartbeats 4000000
namespace Hue
open PySem PySem.Spec PyProof.Rows L2
abbrev N_is_integer : List Str := ["value"]
def t_is_integer (K : PySem.W.Frag) : TS :=
  (tRet (tAndV (tCB (rIsi K) (tCons (tVar 0) (tCons (tC (.ty "int")) tNil))) (tNotV (tCB (rIsi K) (tCons (tVar 0) (tCons (tC (.ty "bool")) tNil))))))
abbrev N_is_lamp : List Str := ["house", "value"]
def t_is_lamp (K : PySem.W.Frag) : TS :=
  (tRet (tAndV (tCl (sp_is_integer K) E0 (tCons (tVar 1) tNil)) (tChain oLe oLt (tC (.int 0)) (tVar 1) (tFld K (tVar 0) "count"))))
abbrev N_bits : List Str := ["mask", "lamp"]
def t_bits (K : PySem.W.Frag) : TS :=
  (tRet (tLc (iRng1 (tCons (tBits (tVar 0)) tNil)) (gName 1) (tTest (tOp rEq (tOp oAnd (tOp oShr (tVar 0) (tVar 1)) (tC (.int 1))) (tC (.int 1)))) (tVar 1) [1]))
abbrev N_below_masks : List Str := ["house"]
def t_below_masks (K : PySem.W.Frag) : TS :=
  (tRet (tFld K (tVar 0) "_below_masks"))
abbrev N_above_masks : List Str := ["house"]
def t_above_masks (K : PySem.W.Frag) : TS :=
  (tRet (tFld K (tVar 0) "_above_masks"))
abbrev N__is_wire : List Str := ["count", "value", "upper", "lower"]
def t__is_wire (K : PySem.W.Frag) : TS :=
  (tSeq (tIfS (tOr (tNot (tB (tCB (rIsi K) (tCons (tVar 1) (tCons (tC (.ty "tuple")) tNil))))) (tTest (tOp rNe (tCB (rLen K) (tCons (tVar 1) tNil)) (tC (.int 2))))) (tRet (tC (.bl false))) tNext)
  (tSeq (tAsg (tVar 1) (gTup K 2 (gCons (gName 2) (gCons (gName 3) gNil))))
  (tSeq (tIfS (tOr (tNot (tB (tCl (sp_is_integer K) E0 (tCons (tVar 2) tNil)))) (tNot (tB (tCl (sp_is_integer K) E0 (tCons (tVar 3) tNil))))) (tRet (tC (.bl false))) tNext)
  (tRet (tAndV (tChain oLe oLt (tC (.int 0)) (tVar 2) (tVar 0)) (tAndV (tChain oLe oLt (tC (.int 0)) (tVar 3) (tVar 0)) (tOp rNe (tVar 2) (tVar 3))))))))
abbrev N__join_wires : List Str := ["count", "wires", "wired", "below", "index", "wire", "upper", "lower", "gained", "lamp"]
def t__join_wires (K : PySem.W.Frag) : TS :=
  (tSeq (tAsg (tOp rRep (tLst (tCons (tC (.int 0)) tNil)) (tVar 0)) (gName 2))
  (tSeq (tAsg (tOp rRep (tLst (tCons (tC (.int 0)) tNil)) (tVar 0)) (gName 3))
  (tSeq (tFor (iEnumQ K (tCons (tVar 1) tNil)) (gTup K 2 (gCons (gName 4) (gCons (gName 5) gNil)))
  (tSeq (tIfS (tNot (tB (tCl (sp__is_wire K) E0 (tCons (tVar 0) (tCons (tVar 5) tNil))))) tNever tNext)
  (tSeq (tAsg (tVar 5) (gTup K 2 (gCons (gName 6) (gCons (gName 7) gNil))))
  (tSeq (tIfS (tTest (tOp rEq (tOp oAnd (tOp oShr (tOp (rIxL K) (tVar 2) (tVar 6)) (tVar 7)) (tC (.int 1))) (tC (.int 1)))) tNever tNext)
  (tSeq (tIfS (tTest (tOp rEq (tOp oAnd (tOp oShr (tOp (rIxL K) (tVar 3) (tVar 7)) (tVar 6)) (tC (.int 1))) (tC (.int 1)))) tNever tNext)
  (tSeq (tAsg (tOp oOr (tOp (rIxL K) (tVar 2) (tVar 6)) (tOp oShl (tC (.int 1)) (tVar 7))) (gSub (tVar 2) (tVar 6) rSetL))
  (tSeq (tAsg (tOp oOr (tOp (rIxL K) (tVar 3) (tVar 7)) (tOp oShl (tC (.int 1)) (tVar 7))) (gName 8))
  (tFor (iRng1 (tCons (tVar 0) tNil)) (gName 9)
  (tIfS (tOr (tTest (tOp rEq (tVar 9) (tVar 6))) (tTest (tOp rEq (tOp oAnd (tOp oShr (tOp (rIxL K) (tVar 3) (tVar 9)) (tVar 6)) (tC (.int 1))) (tC (.int 1))))) (tAsg (tOp oOr (tOp (rIxL K) (tVar 3) (tVar 9)) (tVar 8)) (gSub (tVar 3) (tVar 9) rSetL)) tNext)))))))))
  (tRet (tVar 3)))))
abbrev N__turn_round : List Str := ["below", "upper_masks", "upper", "mask", "lower"]
def t__turn_round (K : PySem.W.Frag) : TS :=
  (tSeq (tAsg (tOp rRep (tLst (tCons (tC (.int 0)) tNil)) (tCB (rLen K) (tCons (tVar 0) tNil))) (gName 1))
  (tSeq (tFor (iEnum K (tCons (tVar 0) tNil)) (gTup K 2 (gCons (gName 2) (gCons (gName 3) gNil)))
  (tFor (iList K (tCl (sp_bits K) E0 (tCons (tVar 3) tNil))) (gName 4)
  (tAsg (tOp oOr (tOp (rIxL K) (tVar 1) (tVar 4)) (tOp oShl (tC (.int 1)) (tVar 2))) (gSub (tVar 1) (tVar 4) rSetL))))
  (tRet (tVar 1))))
abbrev N__order_list : List Str := ["masks", "lamps", "listed", "ready", "following", "lamp", "mask"]
def t__order_list (K : PySem.W.Frag) : TS :=
  (tSeq (tAsg (tLst tNil) (gName 1))
  (tSeq (tAsg (tC (.int 0)) (gName 2))
  (tSeq (tWhile (tTest (tOp oLt (tCB (rLen K) (tCons (tVar 1) tNil)) (tCB (rLen K) (tCons (tVar 0) tNil)))) (tSeq (tAsg (tLc (iEnum K (tCons (tVar 0) tNil)) (gTup K 2 (gCons (gName 5) (gCons (gName 6) gNil))) (tTest (tOp rEq (tOp oAnd (tVar 6) (tVar 2)) (tVar 6))) (tVar 5) [5, 6]) (gName 3))
  (tSeq (tAsg (tLc (iList K (tVar 3)) (gName 5) (tTest (tOp rEq (tOp oAnd (tOp oShr (tVar 2) (tVar 5)) (tC (.int 1))) (tC (.int 0)))) (tVar 5) [5]) (gName 4))
  (tSeq (tDrop (tBM K "list" rAppend (tVar 1) (tCons (tOp (rIxL K) (tVar 4) (tC (.int 0))) tNil)))
  (tAsg (tOp oOr (tVar 2) (tOp oShl (tC (.int 1)) (tOp (rIxL K) (tVar 4) (tC (.int 0))))) (gName 2))))))
  (tRet (tVar 1)))))
abbrev N_is_state : List Str := ["house", "value", "hue"]
def t_is_state (K : PySem.W.Frag) : TS :=
  (tSeq (tIfS (tOr (tNot (tB (tCB (rIsi K) (tCons (tVar 1) (tCons (tC (.ty "tuple")) tNil))))) (tTest (tOp rNe (tCB (rLen K) (tCons (tVar 1) tNil)) (tFld K (tVar 0) "count")))) (tRet (tC (.bl false))) tNext)
  (tRet (tCB (rAll K) (tCons (tLc (iTup K (tVar 1)) (gName 2) tYes (tAndV (tCl (sp_is_integer K) E0 (tCons (tVar 2) tNil)) (tChain oLe oLt (tC (.int 0)) (tVar 2) (tFld K (tVar 0) "hues"))) [2]) tNil))))
abbrev N_turned_down : List Str := ["hue", "hues"]
def t_turned_down (K : PySem.W.Frag) : TS :=
  (tSeq (tIfS (tTest (tOp oGt (tVar 0) (tC (.int 0)))) (tRet (tOp oSub (tVar 0) (tC (.int 1)))) tNext)
  (tRet (tOp oSub (tVar 1) (tC (.int 1)))))
abbrev N_need_lamp : List Str := ["house", "value"]
def t_need_lamp (K : PySem.W.Frag) (E : XK) : TS :=
  (tIfS (tNot (tB (tCl (sp_is_lamp K) E0 (tCons (tVar 0) (tCons (tVar 1) tNil))))) (tRaiseIL K E (tVar 1)) tNext)
abbrev N_need_state : List Str := ["house", "value"]
def t_need_state (K : PySem.W.Frag) : TS :=
  (tIfS (tNot (tB (tCl (sp_is_state K) E0 (tCons (tVar 0) (tCons (tVar 1) tNil))))) tNever tNext)
abbrev N_need_run : List Str := ["house", "run", "lamp"]
def t_need_run (K : PySem.W.Frag) (E : XK) : TS :=
  (tFor (iList K (tVar 1)) (gName 2)
  (tDrop (tCl (sp_need_lamp K) E (tCons (tVar 0) (tCons (tVar 2) tNil)))))
abbrev N_lit_beneath : List Str := ["house", "state", "lamp", "lower"]
def t_lit_beneath (K : PySem.W.Frag) : TS :=
  (tSeq (tFor (iList K (tCl (sp_bits K) E0 (tCons (tOp (rIxL K) (tCl (sp_below_masks K) E0 (tCons (tVar 0) tNil)) (tVar 2)) tNil))) (gName 3)
  (tIfS (tTest (tOp oGt (tOp (rIxT K) (tVar 1) (tVar 3)) (tC (.int 0)))) (tRet (tVar 3)) tNext))
  (tRet (tC .non)))
abbrev N_moved : List Str := ["house", "state", "lamp", "hues", "result", "lower"]
def t_moved (K : PySem.W.Frag) : TS :=
  (tSeq (tAsg (tFld K (tVar 0) "hues") (gName 3))
  (tSeq (tAsg (tCB (rListOf K) (tCons (tVar 1) tNil)) (gName 4))
  (tSeq (tAsg (tOp oSub (tOp (rIxT K) (tVar 1) (tVar 2)) (tC (.int 1))) (gSub (tVar 4) (tVar 2) rSetL))
  (tSeq (tFor (iList K (tCl (sp_bits K) E0 (tCons (tOp (rIxL K) (tCl (sp_below_masks K) E0 (tCons (tVar 0) tNil)) (tVar 2)) tNil))) (gName 5)
  (tAsg (tCl (sp_turned_down K) E0 (tCons (tOp (rIxT K) (tVar 1) (tVar 5)) (tCons (tVar 3) tNil))) (gSub (tVar 4) (tVar 5) rSetL)))
  (tRet (tCB (rTupOf K) (tCons (tVar 4) tNil)))))))
abbrev N_can_move : List Str := ["house", "state", "lamp", "careful"]
def t_can_move (K : PySem.W.Frag) : TS :=
  (tSeq (tIfS (tTest (tOp rEq (tOp (rIxT K) (tVar 1) (tVar 2)) (tC (.int 0)))) (tRet (tC (.bl false))) tNext)
  (tRet (tOrV (tNotV (tVar 3)) (tOp oIsN (tCl (sp_lit_beneath K) E0 (tCons (tVar 0) (tCons (tVar 1) (tCons (tVar 2) tNil)))) (tC .non)))))
abbrev N_refuse : List Str := ["house", "state", "lamp", "step", "careful", "lower"]
def t_refuse (K : PySem.W.Frag) : TS :=
  (tSeq (tIfS (tTest (tOp rEq (tOp (rIxT K) (tVar 1) (tVar 2)) (tC (.int 0)))) tNever tNext)
  (tIfS (tB (tVar 4)) (tSeq (tAsg (tCl (sp_lit_beneath K) E0 (tCons (tVar 0) (tCons (tVar 1) (tCons (tVar 2) tNil)))) (gName 5))
  (tIfS (tTest (tOp oNotN (tVar 5) (tC .non))) tNever tNext)) tNext))
abbrev N_play : List Str := ["house", "state", "run", "careful", "here", "step", "lamp"]
def t_play (K : PySem.W.Frag) : TS :=
  (tSeq (tDrop (tCl (sp_need_state K) E0 (tCons (tVar 0) (tCons (tVar 1) tNil))))
  (tSeq (tDrop (tCl (sp_need_run K) E0 (tCons (tVar 0) (tCons (tVar 2) tNil))))
  (tSeq (tAsg (tVar 1) (gName 4))
  (tSeq (tFor (iEnum K (tCons (tVar 2) tNil)) (gTup K 2 (gCons (gName 5) (gCons (gName 6) gNil)))
  (tSeq (tDrop (tCl (sp_refuse K) E0 (tCons (tVar 0) (tCons (tVar 4) (tCons (tVar 6) (tCons (tVar 5) (tCons (tVar 3) tNil)))))))
  (tAsg (tCl (sp_moved K) E0 (tCons (tVar 0) (tCons (tVar 4) (tCons (tVar 6) tNil)))) (gName 4))))
  (tRet (tVar 4))))))
abbrev N_first_refused : List Str := ["house", "state", "run", "careful", "here", "step", "lamp"]
def t_first_refused (K : PySem.W.Frag) : TS :=
  (tSeq (tDrop (tCl (sp_need_state K) E0 (tCons (tVar 0) (tCons (tVar 1) tNil))))
  (tSeq (tDrop (tCl (sp_need_run K) E0 (tCons (tVar 0) (tCons (tVar 2) tNil))))
  (tSeq (tAsg (tVar 1) (gName 4))
  (tSeq (tFor (iEnum K (tCons (tVar 2) tNil)) (gTup K 2 (gCons (gName 5) (gCons (gName 6) gNil)))
  (tSeq (tIfS (tNot (tB (tCl (sp_can_move K) E0 (tCons (tVar 0) (tCons (tVar 4) (tCons (tVar 6) (tCons (tVar 3) tNil))))))) (tRet (tVar 5)) tNext)
  (tAsg (tCl (sp_moved K) E0 (tCons (tVar 0) (tCons (tVar 4) (tCons (tVar 6) tNil)))) (gName 4))))
  (tRet (tC .non))))))
abbrev N_counts_of : List Str := ["house", "run", "counts", "lamp", "_"]
def t_counts_of (K : PySem.W.Frag) : TS :=
  (tSeq (tDrop (tCl (sp_need_run K) E0 (tCons (tVar 0) (tCons (tVar 1) tNil))))
  (tSeq (tAsg (tLc (iRng1 (tCons (tFld K (tVar 0) "count") tNil)) (gName 4) tYes (tC (.int 0)) [4]) (gName 2))
  (tSeq (tFor (iList K (tVar 1)) (gName 3)
  (tAugS (tVar 2) (tVar 3) (tC (.int 1)) (rGetL K) (ipI fun i j => i + j) rSetL))
  (tRet (tVar 2)))))
abbrev N_comparable_lamps : List Str := ["house", "below", "above", "lamp"]
def t_comparable_lamps (K : PySem.W.Frag) : TS :=
  (tSeq (tAsg (tCl (sp_below_masks K) E0 (tCons (tVar 0) tNil)) (gName 1))
  (tSeq (tAsg (tCl (sp_above_masks K) E0 (tCons (tVar 0) tNil)) (gName 2))
  (tRet (tLc (iRng1 (tCons (tFld K (tVar 0) "count") tNil)) (gName 3) tYes (tCl (sp_bits K) E0 (tCons (tOp oOr (tOp (rIxL K) (tVar 1) (tVar 3)) (tOp (rIxL K) (tVar 2) (tVar 3))) tNil)) [3]))))
abbrev N_moves_at : List Str := ["run", "upper", "lower", "lamp"]
def t_moves_at (K : PySem.W.Frag) : TS :=
  (tRet (tLc (iList K (tVar 0)) (gName 3) (tOr (tTest (tOp rEq (tVar 3) (tVar 1))) (tTest (tOp rEq (tVar 3) (tVar 2)))) (tVar 3) [3]))
abbrev N_is_swap : List Str := ["house", "first", "second", "below", "upper", "lower"]
def t_is_swap (K : PySem.W.Frag) (E : XK) : TS :=
  (tSeq (tDrop (tCl (sp_need_run K) E (tCons (tVar 0) (tCons (tVar 1) tNil))))
  (tSeq (tDrop (tCl (sp_need_run K) E (tCons (tVar 0) (tCons (tVar 2) tNil))))
  (tSeq (tIfS (tTest (tOp (rNeD K) (tCl (sp_counts_of K) E0 (tCons (tVar 0) (tCons (tVar 1) tNil))) (tCl (sp_counts_of K) E0 (tCons (tVar 0) (tCons (tVar 2) tNil))))) (tRet (tC (.bl false))) tNext)
  (tSeq (tAsg (tCl (sp_below_masks K) E0 (tCons (tVar 0) tNil)) (gName 3))
  (tSeq (tFor (iRng1 (tCons (tFld K (tVar 0) "count") tNil)) (gName 4)
  (tFor (iList K (tCl (sp_bits K) E0 (tCons (tOp (rIxL K) (tVar 3) (tVar 4)) tNil))) (gName 5)
  (tIfS (tTest (tOp (rNeD K) (tCl (sp_moves_at K) E0 (tCons (tVar 1) (tCons (tVar 4) (tCons (tVar 5) tNil)))) (tCl (sp_moves_at K) E0 (tCons (tVar 2) (tCons (tVar 4) (tCons (tVar 5) tNil)))))) (tRet (tC (.bl false))) tNext)))
  (tRet (tC (.bl true))))))))
abbrev N_next_sorted : List Str := ["heads", "comparable", "end", "lamp", "head", "other"]
def t_next_sorted (K : PySem.W.Frag) : TS :=
  (tSeq (tFor (iEnum K (tCons (tVar 0) tNil)) (gTup K 2 (gCons (gName 3) (gCons (gName 4) gNil)))
  (tIfS (tAnd (tTest (tOp oLt (tVar 4) (tVar 2))) (tB (tCB (rAll K) (tCons (tLc (iList K (tOp (rIxL K) (tVar 1) (tVar 3))) (gName 5) tYes (tOp oGt (tOp (rIxL K) (tVar 0) (tVar 5)) (tVar 4)) [5]) tNil)))) (tRet (tVar 3)) tNext))
  (tRet (tC .non)))
abbrev N_sorted_form : List Str := ["house", "run", "end", "places", "index", "lamp", "taken", "heads", "comparable", "result", "_", "row"]
def t_sorted_form (K : PySem.W.Frag) (E : XK) : TS :=
  (tSeq (tDrop (tCl (sp_need_run K) E (tCons (tVar 0) (tCons (tVar 1) tNil))))
  (tSeq (tAsg (tCB (rLen K) (tCons (tVar 1) tNil)) (gName 2))
  (tSeq (tAsg (tLc (iRng1 (tCons (tFld K (tVar 0) "count") tNil)) (gName 10) tYes (tLst tNil) [10]) (gName 3))
  (tSeq (tFor (iEnum K (tCons (tVar 1) tNil)) (gTup K 2 (gCons (gName 4) (gCons (gName 5) gNil)))
  (tDrop (tBM K "list" rAppend (tOp (rIxL K) (tVar 3) (tVar 5)) (tCons (tVar 4) tNil))))
  (tSeq (tFor (iRng1 (tCons (tFld K (tVar 0) "count") tNil)) (gName 5)
  (tDrop (tBM K "list" rAppend (tOp (rIxL K) (tVar 3) (tVar 5)) (tCons (tVar 2) tNil))))
  (tSeq (tAsg (tLc (iRng1 (tCons (tFld K (tVar 0) "count") tNil)) (gName 10) tYes (tC (.int 0)) [10]) (gName 6))
  (tSeq (tAsg (tLc (iList K (tVar 3)) (gName 11) tYes (tOp (rIxL K) (tVar 11) (tC (.int 0))) [11]) (gName 7))
  (tSeq (tAsg (tCl (sp_comparable_lamps K) E0 (tCons (tVar 0) tNil)) (gName 8))
  (tSeq (tAsg (tLst tNil) (gName 9))
  (tSeq (tWhile (tTest (tOp oLt (tCB (rLen K) (tCons (tVar 9) tNil)) (tVar 2))) (tSeq (tAsg (tCl (sp_next_sorted K) E0 (tCons (tVar 7) (tCons (tVar 8) (tCons (tVar 2) tNil)))) (gName 5))
  (tSeq (tDrop (tBM K "list" rAppend (tVar 9) (tCons (tVar 5) tNil)))
  (tSeq (tAugS (tVar 6) (tVar 5) (tC (.int 1)) (rGetL K) (ipI fun i j => i + j) rSetL)
  (tAsg (tOp (rIxL K) (tOp (rIxL K) (tVar 3) (tVar 5)) (tOp (rIxL K) (tVar 6) (tVar 5))) (gSub (tVar 7) (tVar 5) rSetL))))))
  (tRet (tVar 9))))))))))))
abbrev N_neighbours : List Str := ["house", "run", "comparable", "result", "index", "one", "other", "swapped"]
def t_neighbours (K : PySem.W.Frag) (E : XK) : TS :=
  (tSeq (tDrop (tCl (sp_need_run K) E (tCons (tVar 0) (tCons (tVar 1) tNil))))
  (tSeq (tAsg (tCl (sp_comparable_lamps K) E0 (tCons (tVar 0) tNil)) (gName 2))
  (tSeq (tAsg (tLst tNil) (gName 3))
  (tSeq (tFor (iRng1 (tCons (tOp oSub (tCB (rLen K) (tCons (tVar 1) tNil)) (tC (.int 1))) tNil)) (gName 4)
  (tSeq (tAsg (tOp (rIxL K) (tVar 1) (tVar 4)) (gName 5))
  (tSeq (tAsg (tOp (rIxL K) (tVar 1) (tOp oAdd (tVar 4) (tC (.int 1)))) (gName 6))
  (tIfS (tAnd (tTest (tOp rNe (tVar 5) (tVar 6))) (tTest (tOp (rIn K true) (tVar 6) (tOp (rIxL K) (tVar 2) (tVar 5))))) (tSeq (tAsg (tCB (rListOf K) (tCons (tVar 1) tNil)) (gName 7))
  (tSeq (tAsg (tVar 6) (gSub (tVar 7) (tVar 4) rSetL))
  (tSeq (tAsg (tVar 5) (gSub (tVar 7) (tOp oAdd (tVar 4) (tC (.int 1))) rSetL))
  (tDrop (tBM K "list" rAppend (tVar 3) (tCons (tVar 7) tNil)))))) tNext))))
  (tRet (tVar 3))))))
abbrev N__law_box : List Str := ["_law_script", "_law_cell"]
def t__law_box (K : PySem.W.Frag) : TS :=
  (tRet (tOp rCat (tLst (tCons (tC (.int 4)) (tCons (tC (.int 0)) (tCons (tC (.int 4896)) (tCons (tC (.int 0)) tNil))))) (tLc (iList K (tSl (rSlL K) (tVar 0) tNoPart (tPart (tC (.int 63))))) (gName 1) tYes (tCB rInt1 (tCons (tVar 1) tNil)) [1])))
abbrev N__law_mixed : List Str := ["_law_seed", "_law_turn", "_law_first", "_law_second_here", "_law_third"]
def t__law_mixed (K : PySem.W.Frag) : TS :=
  (tSeq (tAsg (tOp oMod (tCB rInt1 (tCons (tOp oAdd (tOp oAdd (tOp oMul (tVar 0) (tC (.int 48271))) (tOp oMul (tVar 1) (tC (.int 69621)))) (tC (.int 7919))) tNil)) (tC (.int 2147483647))) (gName 2))
  (tSeq (tAsg (tOp oMod (tCB rInt1 (tCons (tOp oAdd (tOp oAdd (tOp oMul (tVar 2) (tVar 2)) (tOp oMul (tVar 1) (tC (.int 16807)))) (tOp oDiv (tVar 2) (tC (.int 64)))) tNil)) (tC (.int 2147483587))) (gName 3))
  (tSeq (tAsg (tOp oMod (tCB rInt1 (tCons (tOp oAdd (tOp oMul (tVar 3) (tC (.int 40692))) (tOp oMul (tOp oDiv (tVar 3) (tC (.int 32))) (tOp oAdd (tVar 1) (tC (.int 65521))))) tNil)) (tC (.int 2147483563))) (gName 4))
  (tRet (tOp oDiv (tVar 4) (tC (.int 16)))))))
abbrev N__law_take : List Str := ["_law_box_here", "_law_many", "_law_cell", "_law_digit"]
def t__law_take (K : PySem.W.Frag) : TS :=
  (tSeq (tIfS (tAnd (tTest (tOp rEq (tOp (rIxL K) (tVar 0) (tC (.int 1))) (tC (.int 0)))) (tTest (tOp oLt (tOp (rIxL K) (tVar 0) (tC (.int 0))) (tCB (rLen K) (tCons (tVar 0) tNil))))) (tSeq (tAsg (tOp (rIxL K) (tVar 0) (tOp (rIxL K) (tVar 0) (tC (.int 0)))) (gName 2))
  (tSeq (tAsg (tOp oAdd (tOp (rIxL K) (tVar 0) (tC (.int 0))) (tC (.int 1))) (gSub (tVar 0) (tC (.int 0)) rSetL))
  (tIfS (tTest (tOp oGe (tVar 2) (tOp oPow (tC (.int 10)) (tC (.int 18))))) (tAsg (tVar 2) (gSub (tVar 0) (tC (.int 1)) rSetL)) (tAsg (tOp oMod (tCB rInt1 (tCons (tOp oAdd (tOp oAdd (tOp oMul (tOp (rIxL K) (tVar 0) (tC (.int 2))) (tC (.int 31))) (tOp oMul (tVar 2) (tC (.int 48271)))) (tC (.int 17))) tNil)) (tC (.int 2147483629))) (gSub (tVar 0) (tC (.int 2)) rSetL))))) tNext)
  (tSeq (tIfS (tTest (tOp oGt (tOp (rIxL K) (tVar 0) (tC (.int 1))) (tC (.int 0)))) (tSeq (tAsg (tOp oMod (tCB rInt1 (tCons (tOp (rIxL K) (tVar 0) (tC (.int 1))) tNil)) (tVar 1)) (gName 3))
  (tSeq (tAsg (tOp oDiv (tOp (rIxL K) (tVar 0) (tC (.int 1))) (tVar 1)) (gSub (tVar 0) (tC (.int 1)) rSetL))
  (tRet (tVar 3)))) tNext)
  (tSeq (tAsg (tOp oAdd (tOp (rIxL K) (tVar 0) (tC (.int 3))) (tC (.int 1))) (gSub (tVar 0) (tC (.int 3)) rSetL))
  (tRet (tOp oMod (tCB rInt1 (tCons (tCl (sp__law_mixed K) E0 (tCons (tOp (rIxL K) (tVar 0) (tC (.int 2))) (tCons (tOp (rIxL K) (tVar 0) (tC (.int 3))) tNil))) tNil)) (tVar 1))))))
abbrev N__law_line : List Str := ["_law_box_here", "_law_count", "_law_line_here", "_law_lamp"]
def t__law_line (K : PySem.W.Frag) : TS :=
  (tSeq (tAsg (tLst tNil) (gName 2))
  (tSeq (tFor (iRng1 (tCons (tVar 1) tNil)) (gName 3)
  (tDrop (tBM K "list" rInsert (tVar 2) (tCons (tCl (sp__law_take K) E0 (tCons (tVar 0) (tCons (tOp oAdd (tVar 3) (tC (.int 1))) tNil))) (tCons (tVar 3) tNil)))))
  (tRet (tVar 2))))
abbrev N__law_wires : List Str := ["_law_box_here", "_law_line_here", "_law_shape", "_law_wires_here", "_law_low", "_law_high", "_law_cut"]
def t__law_wires (K : PySem.W.Frag) : TS :=
  (tSeq (tAsg (tCl (sp__law_take K) E0 (tCons (tVar 0) (tCons (tC (.int 6)) tNil))) (gName 2))
  (tSeq (tAsg (tLst tNil) (gName 3))
  (tSeq (tFor (iRng2 (tCons (tC (.int 1)) (tCons (tCB (rLen K) (tCons (tVar 1) tNil)) tNil))) (gName 4)
  (tSeq (tIfS (tTest (tOp rEq (tVar 2) (tC (.int 0)))) (tDrop (tBM K "list" rAppend (tVar 3) (tCons (tTup (tCons (tOp (rIxL K) (tVar 1) (tOp oSub (tVar 4) (tC (.int 1)))) (tCons (tOp (rIxL K) (tVar 1) (tVar 4)) tNil))) tNil))) tNext)
  (tSeq (tIfS (tAnd (tTest (tOp rEq (tVar 2) (tC (.int 1)))) (tTest (tOp oGt (tCl (sp__law_take K) E0 (tCons (tVar 0) (tCons (tC (.int 4)) tNil))) (tC (.int 0))))) (tDrop (tBM K "list" rAppend (tVar 3) (tCons (tTup (tCons (tOp (rIxL K) (tVar 1) (tCl (sp__law_take K) E0 (tCons (tVar 0) (tCons (tVar 4) tNil)))) (tCons (tOp (rIxL K) (tVar 1) (tVar 4)) tNil))) tNil))) tNext)
  (tIfS (tTest (tOp oGt (tVar 2) (tC (.int 2)))) (tFor (iRng1 (tCons (tVar 4) tNil)) (gName 5)
  (tIfS (tTest (tOp rEq (tCl (sp__law_take K) E0 (tCons (tVar 0) (tCons (tOp oSub (tVar 2) (tC (.int 1))) tNil))) (tC (.int 0)))) (tDrop (tBM K "list" rAppend (tVar 3) (tCons (tTup (tCons (tOp (rIxL K) (tVar 1) (tVar 5)) (tCons (tOp (rIxL K) (tVar 1) (tVar 4)) tNil))) tNil))) tNext)) tNext))))
  (tSeq (tAsg (tCl (sp__law_take K) E0 (tCons (tVar 0) (tCons (tOp oAdd (tCB (rLen K) (tCons (tVar 3) tNil)) (tC (.int 1))) tNil))) (gName 6))
  (tRet (tOp rCat (tSl (rSlL K) (tVar 3) (tPart (tVar 6)) tNoPart) (tSl (rSlL K) (tVar 3) tNoPart (tPart (tVar 6)))))))))
abbrev N__law_below : List Str := ["_law_line_here", "_law_wires_here", "_law_lamp", "_law_below_here", "_law_upper", "_law_known", "_law_wire"]
def t__law_below (K : PySem.W.Frag) : TS :=
  (tSeq (tAsg (tLc (iList K (tVar 0)) (gName 2) tYes (tLst tNil) [2]) (gName 3))
  (tSeq (tFor (iRev K (tCons (tVar 0) tNil)) (gName 4)
  (tSeq (tAsg (tLc (iList K (tVar 0)) (gName 2) tYes (tC (.bl false)) [2]) (gName 5))
  (tSeq (tFor (iList K (tVar 1)) (gName 6)
  (tIfS (tTest (tOp rEq (tOp (rIxT K) (tVar 6) (tC (.int 0))) (tVar 4))) (tSeq (tAsg (tC (.bl true)) (gSub (tVar 5) (tOp (rIxT K) (tVar 6) (tC (.int 1))) rSetL))
  (tFor (iList K (tOp (rIxL K) (tVar 3) (tOp (rIxT K) (tVar 6) (tC (.int 1))))) (gName 2)
  (tAsg (tC (.bl true)) (gSub (tVar 5) (tVar 2) rSetL)))) tNext))
  (tAsg (tLc (iRng1 (tCons (tCB (rLen K) (tCons (tVar 0) tNil)) tNil)) (gName 2) (tB (tOp (rIxL K) (tVar 5) (tVar 2))) (tVar 2) [2]) (gSub (tVar 3) (tVar 4) rSetL)))))
  (tRet (tVar 3))))
abbrev N__law_house : List Str := ["_law_box_here", "_law_count", "_law_hues", "_law_wires_here"]
def t__law_house (K : PySem.W.Frag) : TS :=
  (tSeq (tIfS (tTest (tOp (rEqD K) (tVar 3) (tLst tNil))) (tRet (tMkH2 K (tCons (tVar 1) (tCons (tVar 2) tNil)))) tNext)
  (tSeq (tIfS (tTest (tOp rEq (tCl (sp__law_take K) E0 (tCons (tVar 0) (tCons (tC (.int 2)) tNil))) (tC (.int 0)))) (tRet (tMkH3 K (tCons (tVar 1) (tCons (tVar 2) (tCons (tCB (rTupOf K) (tCons (tVar 3) tNil)) tNil))))) tNext)
  (tRet (tMkH3 K (tCons (tVar 1) (tCons (tVar 2) (tCons (tCB (rListOf K) (tCons (tVar 3) tNil)) tNil)))))))
abbrev N__law_state : List Str := ["_law_box_here", "_law_count", "_law_hues", "_law_lamp"]
def t__law_state (K : PySem.W.Frag) : TS :=
  (tSeq (tIfS (tTest (tOp rEq (tCl (sp__law_take K) E0 (tCons (tVar 0) (tCons (tC (.int 4)) tNil))) (tC (.int 0)))) (tRet (tCB (rTupOf K) (tCons (tLc (iRng1 (tCons (tVar 1) tNil)) (gName 3) tYes (tOp oMul (tOp oSub (tVar 2) (tC (.int 1))) (tCl (sp__law_take K) E0 (tCons (tVar 0) (tCons (tC (.int 2)) tNil)))) [3]) tNil))) tNext)
  (tRet (tCB (rTupOf K) (tCons (tLc (iRng1 (tCons (tVar 1) tNil)) (gName 3) tYes (tCl (sp__law_take K) E0 (tCons (tVar 0) (tCons (tVar 2) tNil))) [3]) tNil))))
abbrev N__law_step : List Str := ["_law_hues", "_law_below_here", "_law_state_here", "_law_lamp", "_law_found", "_law_other_here"]
def t__law_step (K : PySem.W.Frag) : TS :=
  (tSeq (tAsg (tCB (rListOf K) (tCons (tVar 2) tNil)) (gName 4))
  (tSeq (tAsg (tOp oSub (tOp (rIxL K) (tVar 4) (tVar 3)) (tC (.int 1))) (gSub (tVar 4) (tVar 3) rSetL))
  (tSeq (tFor (iList K (tOp (rIxL K) (tVar 1) (tVar 3))) (gName 5)
  (tSeq (tAsg (tOp oSub (tOp (rIxL K) (tVar 4) (tVar 5)) (tC (.int 1))) (gSub (tVar 4) (tVar 5) rSetL))
  (tIfS (tTest (tOp oLt (tOp (rIxL K) (tVar 4) (tVar 5)) (tC (.int 0)))) (tAsg (tOp oSub (tVar 0) (tC (.int 1))) (gSub (tVar 4) (tVar 5) rSetL)) tNext)))
  (tRet (tCB (rTupOf K) (tCons (tVar 4) tNil))))))
abbrev N__law_same : List Str := ["_law_told", "_law_due", "_law_k"]
def t__law_same (K : PySem.W.Frag) : TS :=
  (tSeq (tIfS (tOr (tNot (tB (tCB (rIsi K) (tCons (tVar 0) (tCons (tC (.ty "tuple")) tNil))))) (tTest (tOp rNe (tCB (rLen K) (tCons (tVar 0) tNil)) (tCB (rLen K) (tCons (tVar 1) tNil))))) (tRet (tC (.bl false))) tNext)
  (tSeq (tFor (iRng1 (tCons (tCB (rLen K) (tCons (tVar 1) tNil)) tNil)) (gName 2)
  (tIfS (tOr (tNot (tB (tCB (rIsi K) (tCons (tOp (rIxT K) (tVar 0) (tVar 2)) (tCons (tC (.ty "int")) tNil))))) (tOr (tB (tCB (rIsi K) (tCons (tOp (rIxT K) (tVar 0) (tVar 2)) (tCons (tC (.ty "bool")) tNil)))) (tTest (tOp rNe (tOp (rIxT K) (tVar 0) (tVar 2)) (tOp (rIxT K) (tVar 1) (tVar 2)))))) (tRet (tC (.bl false))) tNext))
  (tRet (tC (.bl true)))))
abbrev N__law_listed : List Str := ["_law_told", "_law_due", "_law_k"]
def t__law_listed (K : PySem.W.Frag) : TS :=
  (tSeq (tIfS (tOr (tNot (tB (tCB (rIsi K) (tCons (tVar 0) (tCons (tC (.ty "list")) tNil))))) (tTest (tOp rNe (tCB (rLen K) (tCons (tVar 0) tNil)) (tCB (rLen K) (tCons (tVar 1) tNil))))) (tRet (tC (.bl false))) tNext)
  (tSeq (tFor (iRng1 (tCons (tCB (rLen K) (tCons (tVar 1) tNil)) tNil)) (gName 2)
  (tIfS (tOr (tNot (tB (tCB (rIsi K) (tCons (tOp (rIxL K) (tVar 0) (tVar 2)) (tCons (tC (.ty "int")) tNil))))) (tOr (tB (tCB (rIsi K) (tCons (tOp (rIxL K) (tVar 0) (tVar 2)) (tCons (tC (.ty "bool")) tNil)))) (tTest (tOp rNe (tOp (rIxL K) (tVar 0) (tVar 2)) (tOp (rIxL K) (tVar 1) (tVar 2)))))) (tRet (tC (.bl false))) tNext))
  (tRet (tC (.bl true)))))
abbrev N__law_plan : List Str := ["_law_box_here", "_law_count", "_law_hues", "_law_line_here", "_law_wires_here"]
def t__law_plan (K : PySem.W.Frag) : TS :=
  (tSeq (tAsg (tOp oAdd (tC (.int 1)) (tCl (sp__law_take K) E0 (tCons (tVar 0) (tCons (tIf (tTest (tOp rEq (tCl (sp__law_take K) E0 (tCons (tVar 0) (tCons (tC (.int 8)) tNil))) (tC (.int 0)))) (tC (.int 16)) (tC (.int 6))) tNil)))) (gName 1))
  (tSeq (tAsg (tOp oAdd (tC (.int 2)) (tCl (sp__law_take K) E0 (tCons (tVar 0) (tCons (tIf (tTest (tOp rEq (tCl (sp__law_take K) E0 (tCons (tVar 0) (tCons (tC (.int 8)) tNil))) (tC (.int 0)))) (tC (.int 9)) (tC (.int 3))) tNil)))) (gName 2))
  (tSeq (tAsg (tCl (sp__law_line K) E0 (tCons (tVar 0) (tCons (tVar 1) tNil))) (gName 3))
  (tSeq (tAsg (tCl (sp__law_wires K) E0 (tCons (tVar 0) (tCons (tVar 3) tNil))) (gName 4))
  (tRet (tTup (tCons (tVar 2) (tCons (tVar 3) (tCons (tVar 4) (tCons (tCl (sp__law_state K) E0 (tCons (tVar 0) (tCons (tVar 1) (tCons (tVar 2) tNil)))) tNil))))))))))
abbrev N__law_second : List Str := ["_law_box_here", "_law_plan_here", "_law_gone"]
def t__law_second (K : PySem.W.Frag) : TS :=
  (tSeq (tIfS (tTest (tOp rEq (tCl (sp__law_take K) E0 (tCons (tVar 0) (tCons (tC (.int 2)) tNil))) (tC (.int 0)))) (tRet (tCl (sp__law_plan K) E0 (tCons (tVar 0) tNil))) tNext)
  (tSeq (tAsg (tCl (sp__law_take K) E0 (tCons (tVar 0) (tCons (tCB rMax2 (tCons (tC (.int 1)) (tCons (tCB (rLen K) (tCons (tOp (rIxT K) (tVar 1) (tC (.int 2))) tNil)) tNil))) tNil))) (gName 2))
  (tRet (tTup (tCons (tOp (rIxT K) (tVar 1) (tC (.int 0))) (tCons (tOp (rIxT K) (tVar 1) (tC (.int 1))) (tCons (tOp rCat (tSl (rSlL K) (tOp (rIxT K) (tVar 1) (tC (.int 2))) tNoPart (tPart (tVar 2))) (tSl (rSlL K) (tOp (rIxT K) (tVar 1) (tC (.int 2))) (tPart (tOp oAdd (tVar 2) (tC (.int 1)))) tNoPart)) (tCons (tOp (rIxT K) (tVar 1) (tC (.int 3))) tNil))))))))
abbrev N__law_world : List Str := ["_law_box_here", "_law_plan_here", "_law_house_here"]
def t__law_world (K : PySem.W.Frag) : TS :=
  (tSeq (tAsg (tCl (sp__law_house K) E0 (tCons (tVar 0) (tCons (tCB (rLen K) (tCons (tOp (rIxT K) (tVar 1) (tC (.int 1))) tNil)) (tCons (tOp (rIxT K) (tVar 1) (tC (.int 0))) (tCons (tOp (rIxT K) (tVar 1) (tC (.int 2))) tNil))))) (gName 2))
  (tRet (tTup (tCons (tVar 2) (tCons (tOp (rIxT K) (tVar 1) (tC (.int 0))) (tCons (tCl (sp__law_below K) E0 (tCons (tOp (rIxT K) (tVar 1) (tC (.int 1))) (tCons (tOp (rIxT K) (tVar 1) (tC (.int 2))) tNil))) (tCons (tOp (rIxT K) (tVar 1) (tC (.int 3))) tNil)))))))
abbrev N__law_odd_lamp : List Str := ["_law_box_here", "_law_count", "_law_pick"]
def t__law_odd_lamp (K : PySem.W.Frag) : TS :=
  (tSeq (tAsg (tCl (sp__law_take K) E0 (tCons (tVar 0) (tCons (tC (.int 8)) tNil))) (gName 2))
  (tSeq (tIfS (tTest (tOp rEq (tVar 2) (tC (.int 2)))) (tRet (tOp oAdd (tOp oAdd (tVar 1) (tC (.int 1))) (tCl (sp__law_take K) E0 (tCons (tVar 0) (tCons (tC (.int 100)) tNil))))) tNext)
  (tRet (tOp (rIxL K) (tLst (tCons (tVar 1) (tCons (tUn oNeg (tC (.int 1))) (tCons (tUn oNeg (tC (.int 2))) (tCons (tC (.bl true)) (tCons (tC (.bl false)) (tCons (tC .non) (tCons (tC (.str "0")) (tCons (tTup (tCons (tC (.int 0)) tNil)) tNil))))))))) (tVar 2)))))
abbrev N__law_wrong : List Str := ["_law_below_here", "_law_state_here", "_law_lamp", "_law_gentle", "_law_lit", "_law_other_here"]
def t__law_wrong (K : PySem.W.Frag) : TS :=
  (tSeq (tIfS (tTest (tOp rEq (tOp (rIxT K) (tVar 1) (tVar 2)) (tC (.int 0)))) (tRet (tTup (tCons (tC (.int 1)) (tCons (tVar 2) tNil)))) tNext)
  (tSeq (tAsg (tLc (iList K (tOp (rIxL K) (tVar 0) (tVar 2))) (gName 5) (tTest (tOp oGt (tOp (rIxT K) (tVar 1) (tVar 5)) (tC (.int 0)))) (tVar 5) [5]) (gName 4))
  (tSeq (tIfS (tAnd (tB (tVar 3)) (tTest (tOp (rNeD K) (tVar 4) (tLst tNil)))) (tRet (tTup (tCons (tC (.int 2)) (tCons (tVar 2) (tCons (tOp (rIxL K) (tVar 4) (tC (.int 0))) tNil))))) tNext)
  (tRet (tTup tNil)))))
abbrev N__law_lamps : List Str := ["_law_box_here", "_law_world_here", "_law_most", "_law_house_here", "_law_hues", "_law_below_here", "_law_state_here", "_law_size", "_law_gentle", "_law_lamps_here", "_law_step_here", "_law_good", "_law_k", "_law_lamp"]
def t__law_lamps (K : PySem.W.Frag) : TS :=
  (tSeq (tAsg (tVar 1) (gTup K 4 (gCons (gName 3) (gCons (gName 4) (gCons (gName 5) (gCons (gName 6) gNil))))))
  (tSeq (tAsg (tCl (sp__law_take K) E0 (tCons (tVar 0) (tCons (tOp oAdd (tVar 2) (tC (.int 1))) tNil))) (gName 7))
  (tSeq (tIfS (tTest (tOp rEq (tCl (sp__law_take K) E0 (tCons (tVar 0) (tCons (tC (.int 2)) tNil))) (tC (.int 0)))) (tRet (tLc (iRng1 (tCons (tVar 7) tNil)) (gName 12) tYes (tCl (sp__law_take K) E0 (tCons (tVar 0) (tCons (tCB (rLen K) (tCons (tVar 6) tNil)) tNil))) [12])) tNext)
  (tSeq (tAsg (tOp rEq (tCl (sp__law_take K) E0 (tCons (tVar 0) (tCons (tC (.int 2)) tNil))) (tC (.int 1))) (gName 8))
  (tSeq (tAsg (tLst tNil) (gName 9))
  (tSeq (tFor (iRng1 (tCons (tVar 7) tNil)) (gName 10)
  (tSeq (tAsg (tLc (iRng1 (tCons (tCB (rLen K) (tCons (tVar 6) tNil)) tNil)) (gName 13) (tTest (tOp (rEqD K) (tCl (sp__law_wrong K) E0 (tCons (tVar 5) (tCons (tVar 6) (tCons (tVar 13) (tCons (tVar 8) tNil))))) (tTup tNil))) (tVar 13) [13]) (gName 11))
  (tSeq (tIfS (tTest (tOp (rEqD K) (tVar 11) (tLst tNil))) tBreak tNext)
  (tSeq (tDrop (tBM K "list" rAppend (tVar 9) (tCons (tOp (rIxL K) (tVar 11) (tCl (sp__law_take K) E0 (tCons (tVar 0) (tCons (tCB (rLen K) (tCons (tVar 11) tNil)) tNil)))) tNil)))
  (tAsg (tCl (sp__law_step K) E0 (tCons (tVar 4) (tCons (tVar 5) (tCons (tVar 6) (tCons (tOp (rIxL K) (tVar 9) (tUn oNeg (tC (.int 1)))) tNil))))) (gName 6))))))
  (tRet (tVar 9))))))))
abbrev N__law_apart : List Str := ["_law_below_here", "_law_one", "_law_two"]
def t__law_apart (K : PySem.W.Frag) : TS :=
  (tRet (tAndV (tOp rNe (tVar 1) (tVar 2)) (tAndV (tOp (rIn K true) (tVar 2) (tOp (rIxL K) (tVar 0) (tVar 1))) (tOp (rIn K true) (tVar 1) (tOp (rIxL K) (tVar 0) (tVar 2))))))
abbrev N__law_neighbours : List Str := ["_law_below_here", "_law_lamps_here", "_law_found", "_law_k"]
def t__law_neighbours (K : PySem.W.Frag) : TS :=
  (tSeq (tAsg (tLst tNil) (gName 2))
  (tSeq (tFor (iRng1 (tCons (tOp oSub (tCB (rLen K) (tCons (tVar 1) tNil)) (tC (.int 1))) tNil)) (gName 3)
  (tIfS (tB (tCl (sp__law_apart K) E0 (tCons (tVar 0) (tCons (tOp (rIxL K) (tVar 1) (tVar 3)) (tCons (tOp (rIxL K) (tVar 1) (tOp oAdd (tVar 3) (tC (.int 1)))) tNil))))) (tDrop (tBM K "list" rAppend (tVar 2) (tCons (tOp rCat (tOp rCat (tSl (rSlL K) (tVar 1) tNoPart (tPart (tVar 3))) (tLst (tCons (tOp (rIxL K) (tVar 1) (tOp oAdd (tVar 3) (tC (.int 1)))) (tCons (tOp (rIxL K) (tVar 1) (tVar 3)) tNil)))) (tSl (rSlL K) (tVar 1) (tPart (tOp oAdd (tVar 3) (tC (.int 2)))) tNoPart)) tNil))) tNext))
  (tRet (tVar 2))))
abbrev N__law_swaps : List Str := ["_law_below_here", "_law_lamps_here", "_law_seen", "_law_rows_here", "_law_turn", "_law_later", "_law_row", "_law_other_here", "_law_key"]
def t__law_swaps (K : PySem.W.Frag) : TS :=
  (tSeq (tAsg (tDisp1 (tCB (rTupOf K) (tCons (tVar 1) tNil)) (tC (.bl true))) (gName 2))
  (tSeq (tAsg (tLst (tCons (tVar 1) tNil)) (gName 3))
  (tSeq (tFor (iRng1 (tCons (tC (.int 11)) tNil)) (gName 4)
  (tSeq (tAsg (tLst tNil) (gName 5))
  (tSeq (tFor (iList K (tVar 3)) (gName 6)
  (tFor (iList K (tCl (sp__law_neighbours K) E0 (tCons (tVar 0) (tCons (tVar 6) tNil)))) (gName 7)
  (tIfS (tB (tDNotIn (tCB (rTupOf K) (tCons (tVar 7) tNil)) (tVar 2))) (tSeq (sDPut (tVar 2) (tCB (rTupOf K) (tCons (tVar 7) tNil)) (tC (.bl true)))
  (tDrop (tBM K "list" rAppend (tVar 5) (tCons (tVar 7) tNil)))) tNext)))
  (tAsg (tVar 5) (gName 3)))))
  (tRet (tLockE (tLc (iKeys (tVar 2)) (gName 8) tYes (tCB (rListOf K) (tCons (tVar 8) tNil)) [8]))))))
abbrev N__law_agree : List Str := ["_law_below_here", "_law_first", "_law_second_here", "_law_one", "_law_two", "_law_kept", "_law_lamp"]
def t__law_agree (K : PySem.W.Frag) : TS :=
  (tSeq (tFor (iRng1 (tCons (tCB (rLen K) (tCons (tVar 0) tNil)) tNil)) (gName 3)
  (tFor (iRng1 (tCons (tOp oAdd (tVar 3) (tC (.int 1))) tNil)) (gName 4)
  (tIfS (tNot (tB (tCl (sp__law_apart K) E0 (tCons (tVar 0) (tCons (tVar 3) (tCons (tVar 4) tNil)))))) (tSeq (tAsg (tLc (iList K (tVar 1)) (gName 6) (tTest (tOp (rIn K false) (tVar 6) (tTup (tCons (tVar 3) (tCons (tVar 4) tNil))))) (tVar 6) [6]) (gName 5))
  (tIfS (tTest (tOp (rNeD K) (tVar 5) (tLc (iList K (tVar 2)) (gName 6) (tTest (tOp (rIn K false) (tVar 6) (tTup (tCons (tVar 3) (tCons (tVar 4) tNil))))) (tVar 6) [6]))) (tRet (tC (.bl false))) tNext)) tNext)))
  (tRet (tC (.bl true))))
abbrev N__law_sorted : List Str := ["_law_below_here", "_law_lamps_here", "_law_left", "_law_found", "_law_turn", "_law_lamp", "_law_ready", "_law_best", "_law_place"]
def t__law_sorted (K : PySem.W.Frag) : TS :=
  (tSeq (tAsg (tCB (rListOf K) (tCons (tVar 1) tNil)) (gName 2))
  (tSeq (tAsg (tLst tNil) (gName 3))
  (tSeq (tFor (iRng1 (tCons (tCB (rLen K) (tCons (tVar 1) tNil)) tNil)) (gName 4)
  (tSeq (tAsg (tLc (iList K (tVar 0)) (gName 5) tYes (tC (.bl true)) [5]) (gName 6))
  (tSeq (tAsg (tUn oNeg (tC (.int 1))) (gName 7))
  (tSeq (tFor (iRng1 (tCons (tCB (rLen K) (tCons (tVar 2) tNil)) tNil)) (gName 8)
  (tSeq (tIfS (tAnd (tB (tOp (rIxL K) (tVar 6) (tOp (rIxL K) (tVar 2) (tVar 8)))) (tOr (tTest (tOp oLt (tVar 7) (tC (.int 0)))) (tTest (tOp oLt (tOp (rIxL K) (tVar 2) (tVar 8)) (tOp (rIxL K) (tVar 2) (tVar 7)))))) (tAsg (tVar 8) (gName 7)) tNext)
  (tFor (iRng1 (tCons (tCB (rLen K) (tCons (tVar 0) tNil)) tNil)) (gName 5)
  (tIfS (tNot (tB (tCl (sp__law_apart K) E0 (tCons (tVar 0) (tCons (tOp (rIxL K) (tVar 2) (tVar 8)) (tCons (tVar 5) tNil)))))) (tAsg (tC (.bl false)) (gSub (tVar 6) (tVar 5) rSetL)) tNext))))
  (tSeq (tDrop (tBM K "list" rAppend (tVar 3) (tCons (tOp (rIxL K) (tVar 2) (tVar 7)) tNil)))
  (tAsg (tOp rCat (tSl (rSlL K) (tVar 2) tNoPart (tPart (tVar 7))) (tSl (rSlL K) (tVar 2) (tPart (tOp oAdd (tVar 7) (tC (.int 1)))) tNoPart)) (gName 2)))))))
  (tRet (tVar 3)))))
abbrev N__law_shuffled : List Str := ["_law_box_here", "_law_below_here", "_law_lamps_here", "_law_found", "_law_turn", "_law_k"]
def t__law_shuffled (K : PySem.W.Frag) : TS :=
  (tSeq (tAsg (tCB (rListOf K) (tCons (tVar 2) tNil)) (gName 3))
  (tSeq (tFor (iRng1 (tCons (tCl (sp__law_take K) E0 (tCons (tVar 0) (tCons (tC (.int 4)) tNil))) tNil)) (gName 4)
  (tFor (iRng1 (tCons (tOp oSub (tCB (rLen K) (tCons (tVar 3) tNil)) (tC (.int 1))) tNil)) (gName 5)
  (tIfS (tAnd (tB (tCl (sp__law_apart K) E0 (tCons (tVar 1) (tCons (tOp (rIxL K) (tVar 3) (tVar 5)) (tCons (tOp (rIxL K) (tVar 3) (tOp oAdd (tVar 5) (tC (.int 1)))) tNil))))) (tTest (tOp rEq (tCl (sp__law_take K) E0 (tCons (tVar 0) (tCons (tC (.int 2)) tNil))) (tC (.int 0))))) (tAsg (tOp rCat (tOp rCat (tSl (rSlL K) (tVar 3) tNoPart (tPart (tVar 5))) (tLst (tCons (tOp (rIxL K) (tVar 3) (tOp oAdd (tVar 5) (tC (.int 1)))) (tCons (tOp (rIxL K) (tVar 3) (tVar 5)) tNil)))) (tSl (rSlL K) (tVar 3) (tPart (tOp oAdd (tVar 5) (tC (.int 2)))) tNoPart)) (gName 3)) tNext)))
  (tRet (tVar 3))))
abbrev N__law_other : List Str := ["_law_box_here", "_law_below_here", "_law_lamps_here", "_law_pick", "_law_place", "_law_found", "_law_lamp"]
def t__law_other (K : PySem.W.Frag) : TS :=
  (tSeq (tAsg (tCl (sp__law_take K) E0 (tCons (tVar 0) (tCons (tC (.int 5)) tNil))) (gName 3))
  (tSeq (tIfS (tOr (tTest (tOp rEq (tVar 3) (tC (.int 0)))) (tTest (tOp (rEqD K) (tVar 2) (tLst tNil)))) (tRet (tCl (sp__law_shuffled K) E0 (tCons (tVar 0) (tCons (tVar 1) (tCons (tVar 2) tNil))))) tNext)
  (tSeq (tAsg (tCl (sp__law_take K) E0 (tCons (tVar 0) (tCons (tCB (rLen K) (tCons (tVar 2) tNil)) tNil))) (gName 4))
  (tSeq (tIfS (tTest (tOp rEq (tVar 3) (tC (.int 1)))) (tRet (tOp rCat (tOp rCat (tSl (rSlL K) (tVar 2) tNoPart (tPart (tVar 4))) (tLst (tCons (tCl (sp__law_take K) E0 (tCons (tVar 0) (tCons (tCB (rLen K) (tCons (tVar 1) tNil)) tNil))) tNil))) (tSl (rSlL K) (tVar 2) (tPart (tOp oAdd (tVar 4) (tC (.int 1)))) tNoPart))) tNext)
  (tSeq (tIfS (tTest (tOp rEq (tVar 3) (tC (.int 2)))) (tRet (tOp rCat (tSl (rSlL K) (tVar 2) tNoPart (tPart (tVar 4))) (tSl (rSlL K) (tVar 2) (tPart (tOp oAdd (tVar 4) (tC (.int 1)))) tNoPart))) tNext)
  (tSeq (tIfS (tTest (tOp rEq (tVar 3) (tC (.int 3)))) (tRet (tOp rCat (tOp rCat (tSl (rSlL K) (tVar 2) tNoPart (tPart (tVar 4))) (tRevL K (tSl (rSlL K) (tVar 2) (tPart (tVar 4)) (tPart (tOp oAdd (tVar 4) (tC (.int 2))))))) (tSl (rSlL K) (tVar 2) (tPart (tOp oAdd (tVar 4) (tC (.int 2)))) tNoPart))) tNext)
  (tSeq (tAsg (tLst tNil) (gName 5))
  (tSeq (tFor (iList K (tVar 2)) (gName 6)
  (tDrop (tBM K "list" rInsert (tVar 5) (tCons (tCl (sp__law_take K) E0 (tCons (tVar 0) (tCons (tOp oAdd (tCB (rLen K) (tCons (tVar 5) tNil)) (tC (.int 1))) tNil))) (tCons (tVar 6) tNil)))))
  (tRet (tVar 5))))))))))
abbrev N__law_rows : List Str := ["_law_told", "_law_due", "_law_k"]
def t__law_rows (K : PySem.W.Frag) : TS :=
  (tSeq (tIfS (tOr (tNot (tB (tCB (rIsi K) (tCons (tVar 0) (tCons (tC (.ty "list")) tNil))))) (tTest (tOp rNe (tCB (rLen K) (tCons (tVar 0) tNil)) (tCB (rLen K) (tCons (tVar 1) tNil))))) (tRet (tC (.bl false))) tNext)
  (tSeq (tFor (iRng1 (tCons (tCB (rLen K) (tCons (tVar 1) tNil)) tNil)) (gName 2)
  (tIfS (tNot (tB (tCl (sp__law_listed K) E0 (tCons (tOp (rIxL K) (tVar 0) (tVar 2)) (tCons (tOp (rIxL K) (tVar 1) (tVar 2)) tNil))))) (tRet (tC (.bl false))) tNext))
  (tRet (tC (.bl true)))))
abbrev N__law_listing : List Str := ["_law_house_here", "_law_below_here", "_law_lamps_here", "_law_handed", "_law_due", "_law_told", "_law_row"]
def t__law_listing (K : PySem.W.Frag) : TS :=
  (tSeq (tAsg (tCB (rListOf K) (tCons (tVar 2) tNil)) (gName 3))
  (tSeq (tAsg (tCl (sp__law_neighbours K) E0 (tCons (tVar 1) (tCons (tVar 2) tNil))) (gName 4))
  (tSeq (tAsg (tCl (sp_neighbours K) E0 (tCons (tVar 0) (tCons (tVar 3) tNil))) (gName 5))
  (tSeq (tIfS (tNot (tB (tCl (sp__law_rows K) E0 (tCons (tVar 5) (tCons (tVar 4) tNil))))) (tRet (tC (.bl false))) tNext)
  (tSeq (tFor (iList K (tVar 5)) (gName 6)
  (tDrop (tBM K "list" rAppend (tVar 6) (tCons (tUn oNeg (tC (.int 1))) tNil))))
  (tSeq (tDrop (tBM K "list" rAppend (tVar 5) (tCons (tLst tNil) tNil)))
  (tRet (tAndV (tCl (sp__law_rows K) E0 (tCons (tCl (sp_neighbours K) E0 (tCons (tVar 0) (tCons (tVar 3) tNil))) (tCons (tVar 4) tNil))) (tOp (rEqD K) (tVar 3) (tVar 2))))))))))
abbrev N__law_form : List Str := ["_law_house_here", "_law_lamps_here", "_law_due", "_law_handed", "_law_told"]
def t__law_form (K : PySem.W.Frag) : TS :=
  (tSeq (tAsg (tCB (rListOf K) (tCons (tVar 1) tNil)) (gName 3))
  (tSeq (tAsg (tCl (sp_sorted_form K) E0 (tCons (tVar 0) (tCons (tVar 3) tNil))) (gName 4))
  (tSeq (tIfS (tNot (tB (tCl (sp__law_listed K) E0 (tCons (tVar 4) (tCons (tVar 2) tNil))))) (tRet (tC (.bl false))) tNext)
  (tSeq (tIfS (tNot (tB (tCl (sp__law_listed K) E0 (tCons (tCl (sp_sorted_form K) E0 (tCons (tVar 0) (tCons (tVar 4) tNil))) (tCons (tVar 2) tNil))))) (tRet (tC (.bl false))) tNext)
  (tSeq (tDrop (tBM K "list" rAppend (tVar 4) (tCons (tUn oNeg (tC (.int 1))) tNil)))
  (tRet (tAndV (tCl (sp__law_listed K) E0 (tCons (tCl (sp_sorted_form K) E0 (tCons (tVar 0) (tCons (tVar 3) tNil))) (tCons (tVar 2) tNil))) (tOp (rEqD K) (tVar 3) (tVar 1)))))))))
abbrev N__law_pair : List Str := ["_law_house_here", "_law_first", "_law_second_here", "_law_due", "_law_one", "_law_two", "_law_told", "_law_back"]
def t__law_pair (K : PySem.W.Frag) : TS :=
  (tSeq (tAsg (tCB (rListOf K) (tCons (tVar 1) tNil)) (gName 4))
  (tSeq (tAsg (tCB (rListOf K) (tCons (tVar 2) tNil)) (gName 5))
  (tSeq (tAsg (tCl (sp_is_swap K) E0 (tCons (tVar 0) (tCons (tVar 4) (tCons (tVar 5) tNil)))) (gName 6))
  (tSeq (tAsg (tCl (sp_is_swap K) E0 (tCons (tVar 0) (tCons (tVar 5) (tCons (tVar 4) tNil)))) (gName 7))
  (tSeq (tIfS (tOr (tNot (tB (tCB (rIsi K) (tCons (tVar 6) (tCons (tC (.ty "bool")) tNil))))) (tOr (tNot (tB (tCB (rIsi K) (tCons (tVar 7) (tCons (tC (.ty "bool")) tNil))))) (tOr (tTest (tOp rNe (tVar 6) (tVar 3))) (tTest (tOp rNe (tVar 7) (tVar 3)))))) (tRet (tC (.bl false))) tNext)
  (tSeq (tIfS (tTest (tOp rNe (tOp (rEqD K) (tCl (sp_sorted_form K) E0 (tCons (tVar 0) (tCons (tVar 4) tNil))) (tCl (sp_sorted_form K) E0 (tCons (tVar 0) (tCons (tVar 5) tNil)))) (tVar 3))) (tRet (tC (.bl false))) tNext)
  (tRet (tAndV (tOp (rEqD K) (tVar 4) (tVar 1)) (tOp (rEqD K) (tVar 5) (tVar 2))))))))))
abbrev N__law_played : List Str := ["_law_world_here", "_law_lamps_here", "_law_other_here", "_law_house_here", "_law_hues", "_law_below_here", "_law_state_here", "_law_gentle", "_law_last", "_law_lamp"]
def t__law_played (K : PySem.W.Frag) : TS :=
  (tSeq (tAsg (tVar 0) (gTup K 4 (gCons (gName 3) (gCons (gName 4) (gCons (gName 5) (gCons (gName 6) gNil))))))
  (tSeq (tFor (iTup K (tTup (tCons (tC (.bl false)) (tCons (tC (.bl true)) tNil)))) (gName 7)
  (tSeq (tAsg (tVar 6) (gName 8))
  (tSeq (tFor (iList K (tVar 1)) (gName 9)
  (tSeq (tIfS (tAnd (tTest (tOp oNotN (tVar 8) (tC .non))) (tTest (tOp (rNeD K) (tCl (sp__law_wrong K) E0 (tCons (tVar 5) (tCons (tVar 8) (tCons (tVar 9) (tCons (tVar 7) tNil))))) (tTup tNil)))) (tAsg (tC .non) (gName 8)) tNext)
  (tIfS (tTest (tOp oNotN (tVar 8) (tC .non))) (tAsg (tCl (sp__law_step K) E0 (tCons (tVar 4) (tCons (tVar 5) (tCons (tVar 8) (tCons (tVar 9) tNil))))) (gName 8)) tNext)))
  (tIfS (tTest (tOp oNotN (tVar 8) (tC .non))) (tSeq (tIfS (tTest (tOp oNotN (tClK (sp_first_refused K) E0 (tCons (tVar 3) (tCons (tVar 6) (tCons (tCB (rListOf K) (tCons (tVar 2) tNil)) tNil))) (tCons (tVar 7) tNil)) (tC .non))) (tRet (tC (.bl false))) tNext)
  (tIfS (tNot (tB (tCl (sp__law_same K) E0 (tCons (tClK (sp_play K) E0 (tCons (tVar 3) (tCons (tVar 6) (tCons (tCB (rListOf K) (tCons (tVar 2) tNil)) tNil))) (tCons (tVar 7) tNil)) (tCons (tVar 8) tNil))))) (tRet (tC (.bl false))) tNext)) tNext))))
  (tRet (tC (.bl true)))))
abbrev N__law_short : List Str := ["_law_box_here", "_law_world_here", "_law_lamps_here", "_law_house_here", "_law_hues", "_law_below_here", "_law_state_here", "_law_swaps_here", "_law_due", "_law_turn", "_law_one", "_law_other_here"]
def t__law_short (K : PySem.W.Frag) : TS :=
  (tSeq (tAsg (tVar 1) (gTup K 4 (gCons (gName 3) (gCons (gName 4) (gCons (gName 5) (gCons (gName 6) gNil))))))
  (tSeq (tAsg (tCl (sp__law_swaps K) E0 (tCons (tVar 5) (tCons (tVar 2) tNil))) (gName 7))
  (tSeq (tAsg (tCB (rMinL K) (tCons (tVar 7) tNil)) (gName 8))
  (tSeq (tIfS (tOr (tNot (tB (tCl (sp__law_form K) E0 (tCons (tVar 3) (tCons (tVar 2) (tCons (tVar 8) tNil)))))) (tNot (tB (tCl (sp__law_played K) E0 (tCons (tVar 1) (tCons (tVar 2) (tCons (tVar 8) tNil))))))) (tRet (tC (.bl false))) tNext)
  (tSeq (tFor (iRng1 (tCons (tC (.int 2)) tNil)) (gName 9)
  (tSeq (tAsg (tOp (rIxL K) (tVar 7) (tCl (sp__law_take K) E0 (tCons (tVar 0) (tCons (tCB (rLen K) (tCons (tVar 7) tNil)) tNil)))) (gName 10))
  (tSeq (tIfS (tOr (tNot (tB (tCl (sp__law_form K) E0 (tCons (tVar 3) (tCons (tVar 10) (tCons (tVar 8) tNil)))))) (tNot (tB (tCl (sp__law_pair K) E0 (tCons (tVar 3) (tCons (tVar 2) (tCons (tVar 10) (tCons (tC (.bl true)) tNil)))))))) (tRet (tC (.bl false))) tNext)
  (tSeq (tIfS (tOr (tNot (tB (tCl (sp__law_listing K) E0 (tCons (tVar 3) (tCons (tVar 5) (tCons (tVar 10) tNil)))))) (tNot (tB (tCl (sp__law_played K) E0 (tCons (tVar 1) (tCons (tVar 2) (tCons (tVar 10) tNil))))))) (tRet (tC (.bl false))) tNext)
  (tSeq (tAsg (tCl (sp__law_other K) E0 (tCons (tVar 0) (tCons (tVar 5) (tCons (tVar 2) tNil)))) (gName 11))
  (tIfS (tNot (tB (tCl (sp__law_pair K) E0 (tCons (tVar 3) (tCons (tVar 2) (tCons (tVar 11) (tCons (tOp (rInD K) (tVar 11) (tVar 7)) tNil))))))) (tRet (tC (.bl false))) tNext))))))
  (tRet (tCl (sp__law_listing K) E0 (tCons (tVar 3) (tCons (tVar 5) (tCons (tVar 2) tNil))))))))))
abbrev N__law_long : List Str := ["_law_box_here", "_law_world_here", "_law_lamps_here", "_law_house_here", "_law_hues", "_law_below_here", "_law_state_here", "_law_due", "_law_one", "_law_turn", "_law_other_here"]
def t__law_long (K : PySem.W.Frag) : TS :=
  (tSeq (tAsg (tVar 1) (gTup K 4 (gCons (gName 3) (gCons (gName 4) (gCons (gName 5) (gCons (gName 6) gNil))))))
  (tSeq (tAsg (tCl (sp__law_sorted K) E0 (tCons (tVar 5) (tCons (tVar 2) tNil))) (gName 7))
  (tSeq (tIfS (tOr (tNot (tB (tCl (sp__law_form K) E0 (tCons (tVar 3) (tCons (tVar 2) (tCons (tVar 7) tNil)))))) (tNot (tB (tCl (sp__law_played K) E0 (tCons (tVar 1) (tCons (tVar 2) (tCons (tVar 7) tNil))))))) (tRet (tC (.bl false))) tNext)
  (tSeq (tAsg (tCl (sp__law_shuffled K) E0 (tCons (tVar 0) (tCons (tVar 5) (tCons (tVar 2) tNil)))) (gName 8))
  (tSeq (tIfS (tOr (tNot (tB (tCl (sp__law_pair K) E0 (tCons (tVar 3) (tCons (tVar 2) (tCons (tVar 8) (tCons (tC (.bl true)) tNil))))))) (tNot (tB (tCl (sp__law_played K) E0 (tCons (tVar 1) (tCons (tVar 2) (tCons (tVar 8) tNil))))))) (tRet (tC (.bl false))) tNext)
  (tSeq (tFor (iRng1 (tCons (tC (.int 2)) tNil)) (gName 9)
  (tSeq (tAsg (tCl (sp__law_other K) E0 (tCons (tVar 0) (tCons (tVar 5) (tCons (tVar 2) tNil)))) (gName 10))
  (tIfS (tNot (tB (tCl (sp__law_pair K) E0 (tCons (tVar 3) (tCons (tVar 2) (tCons (tVar 10) (tCons (tCl (sp__law_agree K) E0 (tCons (tVar 5) (tCons (tVar 2) (tCons (tVar 10) tNil)))) tNil))))))) (tRet (tC (.bl false))) tNext)))
  (tRet (tCl (sp__law_listing K) E0 (tCons (tVar 3) (tCons (tVar 5) (tCons (tVar 2) tNil)))))))))))
abbrev N__law_faults : List Str := ["_law_box_here", "_law_house_here", "_law_count", "_law_lamps_here", "_law_odd", "_law_second_here", "_law_place", "_law_bad", "_law_way"]
def t__law_faults (K : PySem.W.Frag) : TS :=
  (tSeq (tAsg (tCl (sp__law_odd_lamp K) E0 (tCons (tVar 0) (tCons (tVar 2) tNil))) (gName 4))
  (tSeq (tAsg (tCl (sp__law_odd_lamp K) E0 (tCons (tVar 0) (tCons (tVar 2) tNil))) (gName 5))
  (tSeq (tAsg (tCl (sp__law_take K) E0 (tCons (tVar 0) (tCons (tOp oAdd (tCB (rLen K) (tCons (tVar 3) tNil)) (tC (.int 1))) tNil))) (gName 6))
  (tSeq (tAsg (tOp rCat (tOp rCat (tOp rCat (tSl (rSlL K) (tVar 3) tNoPart (tPart (tVar 6))) (tLst (tCons (tVar 4) tNil))) (tSl (rSlL K) (tVar 3) (tPart (tVar 6)) tNoPart)) (tLst (tCons (tVar 5) tNil))) (gName 7))
  (tSeq (tFor (iRng1 (tCons (tC (.int 3)) tNil)) (gName 8)
  (tIfS (tTest (tOp (rNeD K) (tCl (sp__law_fault K) E0 (tCons (tVar 1) (tCons (tCB (rListOf K) (tCons (tVar 7) tNil)) (tCons (tCB (rListOf K) (tCons (tVar 3) tNil)) (tCons (tVar 8) tNil))))) (tTup (tCons (tC (.int 1)) (tCons (tCB (rRepr K) (tCons (tVar 4) tNil)) tNil))))) (tRet (tC (.bl false))) tNext))
  (tSeq (tIfS (tTest (tOp (rNeD K) (tCl (sp__law_fault K) E0 (tCons (tVar 1) (tCons (tCB (rListOf K) (tCons (tVar 7) tNil)) (tCons (tLst (tCons (tVar 5) tNil)) (tCons (tC (.int 0)) tNil))))) (tTup (tCons (tC (.int 1)) (tCons (tCB (rRepr K) (tCons (tVar 4) tNil)) tNil))))) (tRet (tC (.bl false))) tNext)
  (tRet (tOp (rEqD K) (tCl (sp__law_fault K) E0 (tCons (tVar 1) (tCons (tCB (rListOf K) (tCons (tVar 3) tNil)) (tCons (tCB (rListOf K) (tCons (tVar 7) tNil)) (tCons (tC (.int 0)) tNil))))) (tTup (tCons (tC (.int 1)) (tCons (tCB (rRepr K) (tCons (tVar 4) tNil)) tNil)))))))))))
abbrev N_law : List Str := ["_law_script", "_law_box_here", "_law_plan_here", "_law_world_here", "_law_other_here", "_law_one", "_law_lamps_here"]
def t_law (K : PySem.W.Frag) : TS :=
  (tSeq (tAsg (tCl (sp__law_box K) E0 (tCons (tVar 0) tNil)) (gName 1))
  (tSeq (tAsg (tCl (sp__law_plan K) E0 (tCons (tVar 1) tNil)) (gName 2))
  (tSeq (tAsg (tCl (sp__law_world K) E0 (tCons (tVar 1) (tCons (tVar 2) tNil))) (gName 3))
  (tSeq (tAsg (tCl (sp__law_world K) E0 (tCons (tVar 1) (tCons (tCl (sp__law_second K) E0 (tCons (tVar 1) (tCons (tVar 2) tNil))) tNil))) (gName 4))
  (tSeq (tFor (iTup K (tTup (tCons (tVar 3) (tCons (tVar 4) tNil)))) (gName 5)
  (tSeq (tIfS (tNot (tB (tCl (sp__law_short K) E0 (tCons (tVar 1) (tCons (tVar 5) (tCons (tCl (sp__law_lamps K) E0 (tCons (tVar 1) (tCons (tVar 5) (tCons (tC (.int 5)) tNil)))) tNil)))))) (tRet (tC (.bl false))) tNext)
  (tSeq (tAsg (tCl (sp__law_lamps K) E0 (tCons (tVar 1) (tCons (tVar 5) (tCons (tIf (tTest (tOp rEq (tCl (sp__law_take K) E0 (tCons (tVar 1) (tCons (tC (.int 8)) tNil))) (tC (.int 0)))) (tC (.int 40)) (tC (.int 12))) tNil)))) (gName 6))
  (tIfS (tOr (tNot (tB (tCl (sp__law_long K) E0 (tCons (tVar 1) (tCons (tVar 5) (tCons (tVar 6) tNil)))))) (tNot (tB (tCl (sp__law_faults K) E0 (tCons (tVar 1) (tCons (tOp (rIxT K) (tVar 5) (tC (.int 0))) (tCons (tCB (rLen K) (tCons (tOp (rIxT K) (tVar 5) (tC (.int 3))) tNil)) (tCons (tVar 6) tNil)))))))) (tRet (tC (.bl false))) tNext))))
  (tRet (tC (.bl true))))))))
abbrev N_hinit : List Str := ["self", "count", "hues", "wires", "upper", "lower", "mask", "_"]
def t_hinit (K : PySem.W.Frag) (cH : Addr) : TS :=
  (tSeq (tIfS (tOr (tNot (tB (tCl (sp_is_integer K) E0 (tCons (tVar 1) tNil)))) (tNot (tTest (tChain oLe oLe (tC (.int 1)) (tVar 1) (ClX.tCVal K (tC (.ref cH)) "MOST_LAMPS"))))) tNever tNext)
  (tSeq (tIfS (tOr (tNot (tB (tCl (sp_is_integer K) E0 (tCons (tVar 2) tNil)))) (tNot (tTest (tChain oLe oLe (tC (.int 2)) (tVar 2) (ClX.tCVal K (tC (.ref cH)) "MOST_HUES"))))) tNever tNext)
  (tSeq (sFld K (tVar 0) (tCl (sp__join_wires K) E0 (tCons (tVar 1) (tCons (tVar 3) tNil))) "_below_masks")
  (tSeq (sFld K (tVar 0) (tCl (sp__turn_round K) E0 (tCons (tFld K (tVar 0) "_below_masks") tNil)) "_above_masks")
  (tSeq (sFld K (tVar 0) (tLc (iList K (tFld K (tVar 0) "_below_masks")) (gName 6) tYes (tCl (sp_bits K) E0 (tCons (tVar 6) tNil)) [6]) "_below")
  (tSeq (sFld K (tVar 0) (tLc (iList K (tFld K (tVar 0) "_above_masks")) (gName 6) tYes (tCl (sp_bits K) E0 (tCons (tVar 6) tNil)) [6]) "_above")
  (tSeq (sFld K (tVar 0) (tCl (sp__order_list K) E0 (tCons (tFld K (tVar 0) "_above_masks") tNil)) "_order")
  (tSeq (sFld K (tVar 0) (tVar 1) "count")
  (tSeq (sFld K (tVar 0) (tVar 2) "hues")
  (tSeq (sFld K (tVar 0) (tCB (rTupOf K) (tCons (tCB (rSrt K) (tCons (tVar 3) tNil)) tNil)) "wires")
  (tSeq (sFld K (tVar 0) (tLc (iRng1 (tCons (tVar 1) tNil)) (gName 7) tYes (tLst tNil) [7]) "_direct")
  (tFor (iTup K (tFld K (tVar 0) "wires")) (gTup K 2 (gCons (gName 4) (gCons (gName 5) gNil)))
  (tDrop (tBM K "list" rAppend (tOp (rIxL K) (tFld K (tVar 0) "_direct") (tVar 4)) (tCons (tVar 5) tNil)))))))))))))))
end Hue
end
section
set_option maxHeartbeats 4000000
namespace Hue
open PySem PySem.Spec PyProof.Rows L2

/-! ### bits -/
theorem and_nn (a b : Nat) : Builtin.bitAnd (a : Int) (b : Int) = ((a &&& b : Nat) : Int) := by
  rw [PyProof.Rows.bitAnd_pp (Int.natCast_nonneg _) (Int.natCast_nonneg _)]
  rfl
theorem or_nn (a b : Nat) : Builtin.bitOr (a : Int) (b : Int) = ((a ||| b : Nat) : Int) := by
  rw [L2.bitOr_nn (Int.natCast_nonneg _) (Int.natCast_nonneg _)]
  rfl
theorem shr_nn (m j : Nat) : (m : Int) / 2 ^ ((j : Int)).toNat = ((m / 2 ^ j : Nat) : Int) := by
  rw [Int.toNat_natCast, Int.natCast_ediv]
  congr 1
theorem shl_nn (j : Nat) : (1 : Int) * 2 ^ ((j : Int)).toNat = ((2 ^ j : Nat) : Int) := by
  rw [Int.toNat_natCast, Int.one_mul, Int.natCast_pow]
  rfl
theorem bit_at (m j : Nat) : Builtin.bitAnd ((m : Int) / 2 ^ ((j : Int)).toNat) 1 = if m.testBit j = true then 1 else 0 := by
  rw [shr_nn]
  have e : Builtin.bitAnd ((m / 2 ^ j : Nat) : Int) ((1 : Nat) : Int) = _ := and_nn _ _
  rw [show ((1 : Nat) : Int) = 1 from rfl] at e
  rw [e, Nat.and_one_is_mod, Nat.testBit_eq_decide_div_mod_eq]
  by_cases h : m / 2 ^ j % 2 = 1
  · rw [h]
    simp
  · have h0 : m / 2 ^ j % 2 = 0 := by omega
    rw [h0]
    simp
theorem bit_is (m j : Nat) : decide (V.int (Builtin.bitAnd ((m : Int) / 2 ^ ((j : Int)).toNat) 1) = V.int 1) = m.testBit j := by
  rw [bit_at]
  cases m.testBit j with
  | true => rfl
  | false => rfl
theorem bit_not_is (m j : Nat) (h : m.testBit j = false) : decide (V.int (Builtin.bitAnd ((m : Int) / 2 ^ ((j : Int)).toNat) 1) = V.int 1) = false := by
  rw [bit_is, h]
theorem bits_le {m j : Nat} (h : m.testBit j = true) : j < Builtin.Int.intBits (m : Int) := by
  unfold Builtin.Int.intBits
  have hm : m ≠ 0 := by
    rintro rfl
    simp at h
  have e : ((m : Int) == 0) = false := beq_eq_false_iff_ne.mpr (by omega)
  rw [if_neg (by rw [e]; exact Bool.false_ne_true), Int.natAbs_natCast]
  have h2 := Nat.ge_two_pow_of_testBit h
  have h3 : j ≤ m.log2 := (Nat.le_log2 hm).mpr h2
  omega
theorem bits_small {m n : Nat} (h : ∀ w, m.testBit w = true → w < n) : Builtin.Int.intBits (m : Int) ≤ n := by
  unfold Builtin.Int.intBits
  by_cases hm : m = 0
  · subst hm
    simp
  · have e : ((m : Int) == 0) = false := beq_eq_false_iff_ne.mpr (by omega)
    rw [if_neg (by rw [e]; exact Bool.false_ne_true), Int.natAbs_natCast]
    have hlt : m < 2 ^ n := Nat.lt_pow_two_of_testBit m fun i hi => by
      cases q : m.testBit i with
      | false => rfl
      | true =>
        have := h i q
        omega
    have := (Nat.log2_lt hm).mpr hlt
    omega
theorem filter_range_le {f : Nat → Bool} {k n : Nat} (hk : k ≤ n) (h : ∀ w, f w = true → w < k) : (List.range n).filter f = (List.range k).filter f := by
  obtain ⟨d, rfl⟩ : ∃ d, n = k + d := ⟨n - k, by omega⟩
  rw [List.range_add, List.filter_append]
  have e : ((List.range d).map (fun x => k + x)).filter f = [] := by
    rw [List.filter_eq_nil_iff]
    intro x hx
    obtain ⟨y, _, rfl⟩ := List.mem_map.mp hx
    intro q
    have := h _ q
    omega
  rw [e, List.append_nil]
theorem filter_range_eq {f : Nat → Bool} {k n : Nat} (hk : ∀ w, f w = true → w < k) (hn : ∀ w, f w = true → w < n) : (List.range n).filter f = (List.range k).filter f := by
  rcases Nat.le_total k n with h | h
  · exact filter_range_le h hk
  · exact (filter_range_le h hn).symm
theorem filter_take_succ {f : Nat → Bool} (i : Nat) : (List.range (i + 1)).filter f = (List.range i).filter f ++ (if f i = true then [i] else []) := by
  rw [List.range_succ, List.filter_append, List.filter_cons, List.filter_nil]

/-! ### a house's fields -/
section
variable {K : PySem.W.Frag} {H : Hp} {a : Addr} {B : Bel} {n : Nat} {h : Int} {Q : VK}
theorem fld_count (x : HouseAt K H a B n h) (q : Q (.int n) H) : ∃ (a' C dx : Addr) (fs : List (Str × V)) (v : V), V.ref a = .ref a' ∧ H a' = some (.ins C dx fs) ∧ Cls K C ∧ NoAttr K C "count" ∧ fs.lookup ("count" : Str) = some v ∧ Q v H := by
  obtain ⟨C, dx, fs, lb, la, h1, h2, h3, h4, h5, h6, h7, h8, h9, h10, h11, h12⟩ := x.ex
  exact ⟨a, C, dx, fs, _, rfl, h1, h2, h3, h7, q⟩
theorem fld_hues (x : HouseAt K H a B n h) (q : Q (.int h) H) : ∃ (a' C dx : Addr) (fs : List (Str × V)) (v : V), V.ref a = .ref a' ∧ H a' = some (.ins C dx fs) ∧ Cls K C ∧ NoAttr K C "hues" ∧ fs.lookup ("hues" : Str) = some v ∧ Q v H := by
  obtain ⟨C, dx, fs, lb, la, h1, h2, h3, h4, h5, h6, h7, h8, h9, h10, h11, h12⟩ := x.ex
  exact ⟨a, C, dx, fs, _, rfl, h1, h2, h4, h8, q⟩
theorem fld_below (x : HouseAt K H a B n h) (q : ∀ l, Masks H l n B → Q (.ref l) H) : ∃ (a' C dx : Addr) (fs : List (Str × V)) (v : V), V.ref a = .ref a' ∧ H a' = some (.ins C dx fs) ∧ Cls K C ∧ NoAttr K C "_below_masks" ∧ fs.lookup ("_below_masks" : Str) = some v ∧ Q v H := by
  obtain ⟨C, dx, fs, lb, la, h1, h2, h3, h4, h5, h6, h7, h8, h9, h10, h11, h12⟩ := x.ex
  exact ⟨a, C, dx, fs, _, rfl, h1, h2, h5, h9, q _ h11⟩
theorem fld_above (x : HouseAt K H a B n h) (q : ∀ l, Masks H l n (rev B) → Q (.ref l) H) : ∃ (a' C dx : Addr) (fs : List (Str × V)) (v : V), V.ref a = .ref a' ∧ H a' = some (.ins C dx fs) ∧ Cls K C ∧ NoAttr K C "_above_masks" ∧ fs.lookup ("_above_masks" : Str) = some v ∧ Q v H := by
  obtain ⟨C, dx, fs, lb, la, h1, h2, h3, h4, h5, h6, h7, h8, h9, h10, h11, h12⟩ := x.ex
  exact ⟨a, C, dx, fs, _, rfl, h1, h2, h6, h10, q _ h12⟩
end
section
variable {K : PySem.W.Frag} {σ : L2.St} {i : Nat} {H : Hp} {a : Addr} {B : Bel} {n : Nat} {h : Int} {Q : VK}
theorem r_count (hv : σ[i]? = some (some (.ref a))) (x : HouseAt K H a B n h) (q : Q (.int n) H) : tFld K (tVar i) "count" σ H Q := ⟨_, hv, fld_count x q⟩
theorem r_hues (hv : σ[i]? = some (some (.ref a))) (x : HouseAt K H a B n h) (q : Q (.int h) H) : tFld K (tVar i) "hues" σ H Q := ⟨_, hv, fld_hues x q⟩
theorem r_below (hv : σ[i]? = some (some (.ref a))) (x : HouseAt K H a B n h) (q : ∀ l, Masks H l n B → Q (.ref l) H) : tFld K (tVar i) "_below_masks" σ H Q := ⟨_, hv, fld_below x q⟩
theorem r_above (hv : σ[i]? = some (some (.ref a))) (x : HouseAt K H a B n h) (q : ∀ l, Masks H l n (rev B) → Q (.ref l) H) : tFld K (tVar i) "_above_masks" σ H Q := ⟨_, hv, fld_above x q⟩
end
theorem Masks.get {H : Hp} {l : Addr} {n : Nat} {R : Bel} (x : Masks H l n R) {v : Nat} (hv : v < n) : ∃ (ms : List Nat) (m : Nat), H l = some (.lst (vNs ms)) ∧ ms.length = n ∧ ms[v]? = some m ∧ ∀ w, m.testBit w = (decide (w < n) && R v w) := by
  obtain ⟨ms, h1, h2, h3⟩ := x
  have e : ms[v]? = some ms[v] := List.getElem?_eq_getElem (by omega)
  exact ⟨ms, ms[v], h1, h2, e, h3 v _ e⟩
theorem ends_eta {Q : VK} : True := trivial
end Hue
end
section
set_option maxHeartbeats 4000000
namespace Hue
open PySem PySem.Spec PyProof.Rows L2
/-! ### short forms -/
section
variable {K : PySem.W.Frag} {H : Hp} {p : Addr} {l : List Nat} {xs : List V} {i j x y : Nat} {v : V} {Q : VK}
theorem ixl (h : H p = some (.lst (vNs l))) (e : l[i]? = some x) (q : Q (vN x) H) : rIxL K (.ref p) (vN i) H Q := ⟨_, _, _, _, rfl, rfl, SqL.of h, atN' e, q⟩
theorem ixL (h : H p = some (.lst xs)) (e : xs[i]? = some v) (q : Q v H) : rIxL K (.ref p) (vN i) H Q := ⟨_, _, _, _, rfl, rfl, SqL.of h, atI_nat e, q⟩
theorem ixR {rows : List (List Nat)} {r : List Nat} (h : LLat H p rows) (e : rows[i]? = some r) (q : ∀ z, H z = some (.lst (vNs r)) → Q (.ref z) H) : rIxL K (.ref p) (vN i) H Q := by
  obtain ⟨as, h1, h2⟩ := h
  obtain ⟨z, e1, e2⟩ := h2.get e
  exact ixL h1 (by rw [List.getElem?_map, e1]; rfl) (q z e2)
theorem ixT (h : H p = some (.tup xs)) (e : xs[i]? = some v) (q : Q v H) : rIxT K (.ref p) (vN i) H Q := ⟨_, _, _, _, rfl, rfl, SqT.of h, atI_nat e, q⟩
theorem ixS {n : Nat} {s : Nat → Int} (h : H p = some (.tup (stV n s))) (e : i < n) (q : Q (.int (s i)) H) : rIxT K (.ref p) (vN i) H Q := ixT h (stV_at e) q
theorem ixN_nat {n i : Nat} (h : i < n) : ixN n (i : Int) = some i := by
  unfold ixN
  rw [if_pos (by omega), if_pos (by omega), Int.toNat_natCast]
theorem stl {Q : Hp → Prop} (h : H p = some (.lst xs)) (hi : i < xs.length) (q : Q (upd H p (.lst (xs.set i v)))) : rSetL (.ref p) (vN i) v H Q := ⟨_, _, _, _, rfl, rfl, h, ixN_nat hi, q⟩
theorem vNs_set : (vNs l).set i (vN x) = vNs (l.set i x) := List.map_set.symm
theorem vNs_app : vNs l ++ [vN x] = vNs (l ++ [x]) := by simp
theorem vNs_len : (vNs l).length = l.length := by simp
theorem lenL (h : H p = some (.lst xs)) (q : Q (vN xs.length) H) : rLen K [.ref p] H Q := ⟨_, _, rfl, .inl (SqL.of h), q⟩
theorem lenN (h : H p = some (.lst (vNs l))) (q : Q (vN l.length) H) : rLen K [.ref p] H Q := ⟨_, _, rfl, .inl (SqL.of h), by rw [vNs_len]; exact q⟩
theorem lenT (h : H p = some (.tup xs)) (q : Q (vN xs.length) H) : rLen K [.ref p] H Q := ⟨_, _, rfl, .inr (SqT.of h), q⟩
theorem ltN (q : Q (.bl (decide (x < y))) H) : oLt (vN x) (vN y) H Q := ⟨_, _, rfl, rfl, by
  have e : decide ((x : Int) < (y : Int)) = decide (x < y) := decide_eq_decide.mpr (by omega)
  show Q (.bl (decide ((x : Int) < (y : Int)))) H
  rw [e]
  exact q⟩
theorem gtN (q : Q (.bl (decide (y < x))) H) : oGt (vN x) (vN y) H Q := ⟨_, _, rfl, rfl, by
  have e : decide ((y : Int) < (x : Int)) = decide (y < x) := decide_eq_decide.mpr (by omega)
  show Q (.bl (decide ((y : Int) < (x : Int)))) H
  rw [e]
  exact q⟩
theorem dN_eq : decide (vN x = vN y) = decide (x = y) := decide_eq_decide.mpr ⟨vN_inj, fun e => by rw [e]⟩
theorem eqN (q : Q (.bl (decide (x = y))) H) : rEq (vN x) (vN y) H Q := ⟨rfl, by rw [dN_eq]; exact q⟩
theorem neN (q : Q (.bl (!decide (x = y))) H) : rNe (vN x) (vN y) H Q := ⟨rfl, by rw [dN_eq]; exact q⟩
theorem dI_eq {i j : Int} : decide (V.int i = V.int j) = decide (i = j) := decide_eq_decide.mpr ⟨fun e => V.int.inj e, fun e => by rw [e]⟩
theorem ltI {i j : Int} {b : Bool} (e : decide (i < j) = b) (q : Q (.bl b) H) : oLt (.int i) (.int j) H Q := ⟨_, _, rfl, rfl, by
  show Q (.bl (decide (i < j))) H
  rw [e]
  exact q⟩
theorem leI {i j : Int} {b : Bool} (e : decide (i ≤ j) = b) (q : Q (.bl b) H) : oLe (.int i) (.int j) H Q := ⟨_, _, rfl, rfl, by
  show Q (.bl (decide (i ≤ j))) H
  rw [e]
  exact q⟩
theorem gtI {i j : Int} {b : Bool} (e : decide (j < i) = b) (q : Q (.bl b) H) : oGt (.int i) (.int j) H Q := ⟨_, _, rfl, rfl, by
  show Q (.bl (decide (j < i))) H
  rw [e]
  exact q⟩
theorem geI {i j : Int} {b : Bool} (e : decide (j ≤ i) = b) (q : Q (.bl b) H) : oGe (.int i) (.int j) H Q := ⟨_, _, rfl, rfl, by
  show Q (.bl (decide (j ≤ i))) H
  rw [e]
  exact q⟩
theorem eqI {i j : Int} (q : Q (.bl (decide (i = j))) H) : rEq (.int i) (.int j) H Q := ⟨rfl, by rw [dI_eq]; exact q⟩
theorem neI {i j : Int} (q : Q (.bl (!decide (i = j))) H) : rNe (.int i) (.int j) H Q := ⟨rfl, by rw [dI_eq]; exact q⟩
theorem apL (h : H p = some (.lst xs)) (hl : xs.length < 10000000) (q : Q .non (upd H p (.lst (xs ++ [v])))) : rAppend (.ref p) [v] H Q := ⟨_, _, _, rfl, rfl, h, n_lt hl, q⟩
theorem apN (h : H p = some (.lst (vNs l))) (hl : l.length < 10000000) (q : Q .non (upd H p (.lst (vNs (l ++ [x]))))) : rAppend (.ref p) [vN x] H Q := apL h (by rw [vNs_len]; exact hl) (by rw [vNs_app]; exact q)
theorem adN (q : Q (vN (x + y)) H) : oAdd (vN x) (vN y) H Q := ⟨_, _, rfl, rfl, by
  have e : (x : Int) + (y : Int) = ((x + y : Nat) : Int) := by omega
  show Q (.int ((x : Int) + (y : Int))) H
  rw [e]
  exact q⟩
theorem sbN (h : y ≤ x) (q : Q (vN (x - y)) H) : oSub (vN x) (vN y) H Q := ⟨_, _, rfl, rfl, by
  have e : (x : Int) - (y : Int) = ((x - y : Nat) : Int) := by omega
  show Q (.int ((x : Int) - (y : Int))) H
  rw [e]
  exact q⟩
theorem kc {σ : L2.St} (q : Q v H) : tC v σ H Q := q
theorem yesT {σ : L2.St} {te : TE} {Qy : VK} {P : Hp → Prop} (q : te σ H Qy) : tYes σ H fun b H3 => if b = true then te σ H3 Qy else P H3 := iteT (B := P H) q
theorem r_lenN {σ : L2.St} {i : Nat} (e : σ[i]? = some (some (.ref p))) (h : H p = some (.lst (vNs l))) (q : Q (vN l.length) H) : tCB (rLen K) (tCons (tVar i) tNil) σ H Q := ⟨_, e, lenN h q⟩
theorem r_lenL {σ : L2.St} {i : Nat} (e : σ[i]? = some (some (.ref p))) (h : H p = some (.lst xs)) (q : Q (vN xs.length) H) : tCB (rLen K) (tCons (tVar i) tNil) σ H Q := ⟨_, e, lenL h q⟩
theorem r_lenT {σ : L2.St} {i : Nat} (e : σ[i]? = some (some (.ref p))) (h : H p = some (.tup xs)) (q : Q (vN xs.length) H) : tCB (rLen K) (tCons (tVar i) tNil) σ H Q := ⟨_, e, lenT h q⟩
theorem r_listL {σ : L2.St} {i : Nat} (e : σ[i]? = some (some (.ref p))) (h : H p = some (.lst xs)) (q : ∀ z, H z = Option.none → Q (.ref z) (upd H z (.lst xs))) : tCB (rListOf K) (tCons (tVar i) tNil) σ H Q := ⟨_, e, _, _, rfl, .inl (SqL.of h), q⟩
theorem r_listT {σ : L2.St} {i : Nat} (e : σ[i]? = some (some (.ref p))) (h : H p = some (.tup xs)) (q : ∀ z, H z = Option.none → Q (.ref z) (upd H z (.lst xs))) : tCB (rListOf K) (tCons (tVar i) tNil) σ H Q := ⟨_, e, _, _, rfl, .inr (SqT.of h), q⟩
theorem range_ok {n : Nat} (h : n ≤ 1000000) : -(2 ^ 62 : Int) ≤ (n : Int) ∧ (n : Int) < 2 ^ 62 := ⟨by omega, by omega⟩
end
theorem drop_at {α : Type} {l : List α} {i : Nat} {x : α} (h : l[i]? = some x) : l.drop i = x :: l.drop (i + 1) := by
  obtain ⟨hi, e⟩ := List.getElem?_eq_some_iff.mp h
  rw [List.drop_eq_getElem_cons hi, e]
theorem take_at {α : Type} {l : List α} {i : Nat} {x : α} (h : l[i]? = some x) : l.take (i + 1) = l.take i ++ [x] := by
  rw [List.take_add_one, h]
  rfl
theorem lt_at {α : Type} {l : List α} {i : Nat} {x : α} (h : l[i]? = some x) : i < l.length := (List.getElem?_eq_some_iff.mp h).1
theorem mem_at {α : Type} {l : List α} {i : Nat} {x : α} (h : l[i]? = some x) : x ∈ l := List.mem_of_getElem? h
theorem at_ex {α : Type} {l : List α} {i : Nat} (h : i < l.length) : ∃ x, l[i]? = some x := ⟨l[i], List.getElem?_eq_getElem h⟩
theorem badV_cons (n : Nat) (x : V) (xs : List V) : badV n (x :: xs) = if isLampV n x = true then badV n xs else some x := by
  unfold badV
  rw [List.find?_cons]
  cases isLampV n x <;> rfl
theorem lampN {n x : Nat} (h : x < n) : isLampV n (vN x) = true := by
  show (decide (0 ≤ (x : Int)) && decide ((x : Int) < n)) = true
  rw [decide_eq_true (by omega), decide_eq_true (by omega)]
  rfl
theorem bad_none {n : Nat} {l : List Nat} (h : ∀ x ∈ l, x < n) : badV n (vNs l) = none := by
  unfold badV
  rw [List.find?_eq_none]
  intro v hv
  obtain ⟨x, hx, rfl⟩ := List.mem_map.mp hv
  rw [lampN (h x hx)]
  decide
theorem pl_vNs {H : Hp} {l : List Nat} : ∀ x ∈ vNs l, PlV H x := fun v hv => by
  obtain ⟨x, _, rfl⟩ := List.mem_map.mp hv
  exact .int _
theorem row_of {R : Bel} {n v m : Nat} (h : ∀ w, m.testBit w = (decide (w < n) && R v w)) : (List.range n).filter m.testBit = belRow R n v := by
  unfold belRow
  apply List.filter_congr
  intro w hw
  rw [h, decide_eq_true (List.mem_range.mp hw), Bool.true_and]
theorem row_small {R : Bel} {n v m : Nat} (h : ∀ w, m.testBit w = (decide (w < n) && R v w)) : ∀ w, m.testBit w = true → w < n := fun w hw => by
  rw [h, Bool.and_eq_true] at hw
  exact of_decide_eq_true hw.1
theorem belRow_len {B : Bel} {n v : Nat} : (belRow B n v).length ≤ n := by
  have := List.length_filter_le (B v) (List.range n)
  rwa [List.length_range] at this
/-- bits(below_masks(house)[lamp]) -/
theorem bits_below {K : PySem.W.Frag} {σ : L2.St} {i j : Nat} {H : Hp} {a : Addr} {v : Nat} {B : Bel} {n : Nat} {h : Int} {Q : VK} (e0 : σ[i]? = some (some (.ref a))) (e2 : σ[j]? = some (some (vN v))) (hh : HouseAt K H a B n h) (hv : v < n)
    (q : RetN H Q (.lst (vNs (belRow B n v)))) : tCl (sp_bits K) E0 (tCons (tOp (rIxL K) (tCl (sp_below_masks K) E0 (tCons (tVar i) tNil)) (tVar j)) tNil) σ H Q := by
  refine ⟨_, e0, a, B, n, h, rfl, hh, fun lm hm => ?_⟩
  obtain ⟨ms, m, h1, h2, h3, h4⟩ := hm.get hv
  refine ⟨_, e2, ixl h1 h3 ?_⟩
  exact ⟨m, n, rfl, hh.n16.2, row_small h4, by rw [row_of h4]; exact q⟩
theorem stV_congr {n : Nat} {f g : Nat → Int} (h : ∀ j, j < n → f j = g j) : stV n f = stV n g := by
  unfold stV
  apply List.map_congr_left
  intro j hj
  rw [h j (List.mem_range.mp hj)]
theorem stV_set {n v : Nat} {s : Nat → Int} {x : Int} : (stV n s).set v (.int x) = stV n (fun j => if j = v then x else s j) := by
  apply List.ext_getElem?
  intro i
  rw [List.getElem?_set]
  by_cases hi : i < n
  · rw [stV_len]
    by_cases e : v = i
    · subst e
      rw [if_pos rfl, if_pos hi, stV_at hi, if_pos rfl]
    · rw [if_neg e, stV_at hi, stV_at hi, if_neg (Ne.symm e)]
  · have e1 : ∀ f : Nat → Int, (stV n f)[i]? = none := fun f => List.getElem?_eq_none (by rw [stV_len]; omega)
    rw [e1, e1]
    by_cases e : v = i
    · rw [if_pos e, stV_len, if_neg (by omega)]
    · rw [if_neg e]
theorem mv_lt {B : Bel} {h : Int} {s : Nat → Int} {v : Nat} (hs : ∀ i, s i < h) : ∀ i, mv B h s v i < h := fun i => by
  unfold mv td
  have := hs i
  split
  · omega
  · split
    · split <;> omega
    · exact this

/-! ### new lists by a comprehension -/
section
variable {J : It} {n : Nat} {G : Hp → Prop} {Y : Nat → Hp → V → Hp → Prop} {g : TG} {tt : TT} {te : TE} {vs : List Nat} {σ : L2.St} {H1 : Hp} {D : Addr} {Qd : Hp → Prop}
/-- the new list's items by a relation that lasts -/
theorem lc_rel (w : Walk J n G Y) (P : Nat → V → Hp → Prop)
    (hm : ∀ i y H H', Same H H' → P i y H → P i y H') (hn : n ≤ 10000000) (hD : H1 D = Option.none) (hG : ∀ H, Same H1 H → G H)
    (hs : ∀ i x H H' (Qy : VK), i < n → Same H1 H → (∃ ys, H D = some (.lst ys)) → Y i H x H' → (∀ y H4, P i y (rm D H4) → Same H H4 → Qy y H4) → g x (wipe σ vs) H' fun σ2 H2 => wipe σ2 vs = wipe σ vs ∧ te σ2 H2 Qy)
    (hd : ∀ ys H, ys.length = n → (∀ i y, ys[i]? = some y → P i y H) → Same H1 H → H D = some (.lst ys) → Qd H)
    (hg : ∀ x σ' H' (Q Q' : L2.St → Hp → Prop), (∀ σ2 H2, Q σ2 H2 → Q' σ2 H2) → g x σ' H' Q → g x σ' H' Q') :
    ∃ W : Nat → Nat → Hp → Prop, (∃ m, W 0 m (upd H1 D (.lst []))) ∧ ∀ i m H, W i m H →
      (J.stop i H ∧ Qd H) ∨ (J.go i H ∧ ∃ Nx : Hp → Prop, (∀ H', Nx H' → ∃ m', m' < m ∧ W (i + 1) m' H') ∧ ∀ x H', J.yld i H x H' → g x (wipe σ vs) H' fun σ2 H2 => wipe σ2 vs = wipe σ vs ∧ tYes σ2 H2 fun b H3 =>
        if b = true then te σ2 H3 fun y H4 => ∃ acc, H4 D = some (.lst acc) ∧ acc.length < sizeLine ∧ Nx (upd H4 D (.lst (acc ++ [y]))) else Nx H3) := by
  refine lc_it w (fun i H => Same H1 H ∧ ∃ ys, ys.length = i ∧ (∀ k y, ys[k]? = some y → P k y (rm D H)) ∧ H D = some (.lst ys)) ⟨sm_new hD, [], rfl, fun k y h => by simp at h, upd_same⟩ (fun i H _ p => hG H p.1) ?_ (fun H ⟨sm, ys, e, hy, hl⟩ => hd ys H e (fun i y q => hm _ _ _ _ (rm_le D H) (hy i y q)) sm hl)
  rintro i x H H' hi ⟨sm, ys, e, hy, hl⟩ y
  refine hg _ _ _ _ _ ?_ (hs i x H H' (fun y H4 => ∃ acc, H4 D = some (.lst acc) ∧ acc.length < sizeLine ∧ (Same H1 (upd H4 D (.lst (acc ++ [y]))) ∧ ∃ ys, ys.length = i + 1 ∧ (∀ k y', ys[k]? = some y' → P k y' (rm D (upd H4 D (.lst (acc ++ [y]))))) ∧ (upd H4 D (.lst (acc ++ [y]))) D = some (.lst ys))) hi sm ⟨_, hl⟩ y ?_)
  · rintro σ2 H2 ⟨h1, h2⟩
    exact ⟨h1, h2⟩
  · intro z H4 pz s4
    refine ⟨ys, s4 _ _ hl, n_lt (by omega), sm_mut (sm.trans s4) hD, ys ++ [z], by simp [e], fun k y' hk => ?_, upd_same⟩
    have q4 : Same (rm D H4) (rm D (upd H4 D (.lst (ys ++ [z])))) := rm_upd
    rcases Nat.lt_or_ge k ys.length with hlt | hge
    · rw [List.getElem?_append_left hlt] at hk
      exact hm _ _ _ _ ((rm_same s4).trans q4) (hy k y' hk)
    · rw [List.getElem?_append_right hge] at hk
      have e0 : k - ys.length = 0 := by
        cases e1 : k - ys.length with
        | zero => rfl
        | succ j =>
          rw [e1] at hk
          simp at hk
      rw [e0] at hk
      have e2 : z = y' := by simpa using hk
      have e3 : k = i := by omega
      subst e2 e3
      exact hm _ _ _ _ q4 pz
/-- the new list's items by a function: none where the test fails -/
theorem lc_fn (w : Walk J n G Y) (f : Nat → Option V) (hn : n ≤ 1000000) (hD : H1 D = Option.none) (hG : ∀ H, Same H1 H → G H)
    (hs : ∀ i x H H' (Qy : VK) (Qn : Hp → Prop), i < n → Same H1 H → Y i H x H' → (∀ y H4, f i = some y → Same H H4 → Qy y H4) → (∀ H4, f i = Option.none → Same H H4 → Qn H4) → g x (wipe σ vs) H' fun σ2 H2 => wipe σ2 vs = wipe σ vs ∧ tt σ2 H2 fun b H3 => if b = true then te σ2 H3 Qy else Qn H3)
    (hd : ∀ H, Same H1 H → H D = some (.lst ((List.range n).filterMap f)) → Qd H) :
    ∃ W : Nat → Nat → Hp → Prop, (∃ m, W 0 m (upd H1 D (.lst []))) ∧ ∀ i m H, W i m H →
      (J.stop i H ∧ Qd H) ∨ (J.go i H ∧ ∃ Nx : Hp → Prop, (∀ H', Nx H' → ∃ m', m' < m ∧ W (i + 1) m' H') ∧ ∀ x H', J.yld i H x H' → g x (wipe σ vs) H' fun σ2 H2 => wipe σ2 vs = wipe σ vs ∧ tt σ2 H2 fun b H3 =>
        if b = true then te σ2 H3 fun y H4 => ∃ acc, H4 D = some (.lst acc) ∧ acc.length < sizeLine ∧ Nx (upd H4 D (.lst (acc ++ [y]))) else Nx H3) := by
  have hlen : ∀ i, ((List.range i).filterMap f).length ≤ i := fun i => by
    have := List.length_filterMap_le f (List.range i)
    rwa [List.length_range] at this
  refine lc_it w (fun i H => Same H1 H ∧ H D = some (.lst ((List.range i).filterMap f))) ⟨sm_new hD, upd_same⟩ (fun i H _ p => hG H p.1) ?_ (fun H p => hd H p.1 p.2)
  rintro i x H H' hi ⟨sm, hl⟩ y
  have e : (List.range (i + 1)).filterMap f = (List.range i).filterMap f ++ (f i).toList := by
    rw [List.range_succ, List.filterMap_append]
    congr 1
  refine hs i x H H' _ _ hi sm y ?_ ?_
  · intro z H4 ez s4
    refine ⟨_, s4 _ _ hl, n_lt (by have := hlen i; omega), sm_mut (sm.trans s4) hD, ?_⟩
    rw [upd_same, e, ez]
    try rfl
  · intro H4 ez s4
    refine ⟨sm.trans s4, ?_⟩
    rw [s4 _ _ hl, e, ez]
    simp
end
theorem gn_mono {i : Nat} : ∀ (x : V) (σ' : L2.St) (H' : Hp) (Q Q' : L2.St → Hp → Prop), (∀ σ2 H2, Q σ2 H2 → Q' σ2 H2) → gName i x σ' H' Q → gName i x σ' H' Q' := fun _ _ _ _ _ h q => h _ _ q
theorem fm_range {n : Nat} {f : Nat → Bool} : (List.range n).filterMap (fun i => if f i = true then some (vN i) else none) = vNs ((List.range n).filter f) := by
  unfold vNs
  rw [← List.filterMap_eq_filter, List.map_filterMap]
  congr 1
  funext i
  cases h : f i <;> simp [h, Option.guard]
theorem fm_list {l : List Nat} {f : Nat → Bool} : (List.range l.length).filterMap (fun i => (l[i]?).bind fun x => if f x = true then some (vN x) else none) = vNs (l.filter f) := by
  have e : ∀ (l : List Nat), (List.range l.length).filterMap (fun i => (l[i]?).bind fun x => if f x = true then some (vN x) else none) = l.filterMap fun x => if f x = true then some (vN x) else none := by
    intro l
    induction l with
    | nil => rfl
    | cons a l ih =>
      rw [List.length_cons, List.range_succ_eq_map, List.filterMap_cons, List.filterMap_map, List.filterMap_cons]
      have e2 : ((fun i => ((a :: l)[i]?).bind fun x => if f x = true then some (vN x) else none) ∘ Nat.succ) = fun i => (l[i]?).bind fun x => if f x = true then some (vN x) else none := by
        funext i
        simp
      rw [e2, ih]
      simp
  rw [e]
  unfold vNs
  rw [← List.filterMap_eq_filter, List.map_filterMap]
  congr 1
  funext i
  cases h : f i <;> simp [h, Option.guard]
end Hue
end
section
set_option maxHeartbeats 4000000
namespace Hue
open PySem PySem.Spec PyProof.Rows L2
/-! ### the heads of what is left, against ready -/
def hdI (f : Nat → Nat) (e : Nat) (ix : List Nat) (x : Nat) : Nat := ((ix.filter fun k => f k == x).head?).getD e
theorem hdI_nil {f : Nat → Nat} {e x : Nat} : hdI f e [] x = e := rfl
theorem hdI_pos {f : Nat → Nat} {e k x : Nat} {s : List Nat} (h : f k = x) : hdI f e (k :: s) x = k := by
  unfold hdI
  rw [List.filter_cons, if_pos (by rw [h]; exact beq_self_eq_true x)]
  rfl
theorem hdI_neg {f : Nat → Nat} {e k x : Nat} {s : List Nat} (h : f k ≠ x) : hdI f e (k :: s) x = hdI f e s x := by
  unfold hdI
  rw [List.filter_cons, if_neg (by rw [beq_iff_eq]; exact h)]
theorem hdI_gt {f : Nat → Nat} {e k : Nat} {s : List Nat} (h : ∀ j ∈ s, k < j) (he : k < e) (x : Nat) : k < hdI f e s x := by
  induction s with
  | nil => exact he
  | cons j s ih =>
    by_cases q : f j = x
    · rw [hdI_pos q]
      exact h j List.mem_cons_self
    · rw [hdI_neg q]
      exact ih fun i hi => h i (List.mem_cons_of_mem _ hi)
theorem ready_ix {B : Bel} (ir : ∀ w, B w w = false) {f : Nat → Nat} {e : Nat} : ∀ {ix : List Nat}, ix.Pairwise (· < ·) → (∀ k ∈ ix, k < e) → ∀ x, ready B (ix.map f) x = true ↔ hdI f e ix x < e ∧ ∀ y, cmpB B x y = true → hdI f e ix x < hdI f e ix y
  | [], _, _, x => ⟨fun h => (by cases h), fun h => absurd h.1 (Nat.lt_irrefl e)⟩
  | k :: s, hp, he, x => by
    obtain ⟨p1, p2⟩ := List.pairwise_cons.mp hp
    have ke := he k List.mem_cons_self
    have ih := ready_ix (f := f) ir p2 (fun j hj => he j (List.mem_cons_of_mem _ hj)) x
    show (f k == x || (apart B (f k) x && ready B (s.map f) x)) = true ↔ _
    rw [Bool.or_eq_true, Bool.and_eq_true, beq_iff_eq]
    by_cases h1 : f k = x
    · rw [hdI_pos h1]
      refine ⟨fun _ => ⟨ke, fun y hy => ?_⟩, fun _ => .inl h1⟩
      have hxy : f k ≠ y := fun q => by
        rw [← h1, ← q] at hy
        unfold cmpB at hy
        rw [ir] at hy
        cases hy
      rw [hdI_neg hxy]
      exact hdI_gt p1 ke y
    · rw [hdI_neg h1]
      cases ap : apart B (f k) x with
      | false =>
        constructor
        · rintro (q | ⟨q, _⟩)
          · exact absurd q h1
          · cases q
        · rintro ⟨q1, q2⟩
          exfalso
          have hc : cmpB B x (f k) = true := by
            unfold cmpB
            cases e1 : B x (f k) with
            | true => rfl
            | false =>
              cases e2 : B (f k) x with
              | true => rfl
              | false =>
                rw [apart_iff.mpr ⟨h1, e2, e1⟩] at ap
                cases ap
          have q3 := q2 (f k) hc
          rw [hdI_pos rfl] at q3
          have := hdI_gt (f := f) p1 ke x
          omega
      | true =>
        obtain ⟨a1, a2, a3⟩ := apart_iff.mp ap
        constructor
        · rintro (q | ⟨_, q⟩)
          · exact absurd q h1
          · obtain ⟨q1, q2⟩ := ih.mp q
            refine ⟨q1, fun y hy => ?_⟩
            have hxy : f k ≠ y := fun q => by
              rw [← q] at hy
              unfold cmpB at hy
              rw [a2, a3] at hy
              cases hy
            rw [hdI_neg hxy]
            exact q2 y hy
        · rintro ⟨q1, q2⟩
          refine .inr ⟨rfl, ih.mpr ⟨q1, fun y hy => ?_⟩⟩
          have hxy : f k ≠ y := fun q => by
            rw [← q] at hy
            unfold cmpB at hy
            rw [a2, a3] at hy
            cases hy
          have := q2 y hy
          rwa [hdI_neg hxy] at this
theorem nextS_nxt {B : Bel} (ir : ∀ w, B w w = false) {n : Nat} (bd : ∀ v w, B v w = true → v < n ∧ w < n) {f : Nat → Nat} {e : Nat} {ix : List Nat} (hp : ix.Pairwise (· < ·)) (he : ∀ k ∈ ix, k < e) {hs : List Nat} (hh : ∀ x, x < n → hs.getD x 0 = hdI f e ix x)
    {x : Nat} (hx : nxt B n (ix.map f) = some x) : nextS (cmpB B) n hs e = some x := by
  have key : ∀ z, z < n → (decide (hs.getD z 0 < e) && (belRow (cmpB B) n z).all fun y => decide (hs.getD z 0 < hs.getD y 0)) = ready B (ix.map f) z := by
    intro z hz
    rw [Bool.eq_iff_iff, ready_ix ir hp he z, Bool.and_eq_true, decide_eq_true_eq, List.all_eq_true, hh z hz]
    refine and_congr_right fun _ => ⟨fun h y hy => ?_, fun h y hy => ?_⟩
    · have hyn : y < n := by
        unfold cmpB at hy
        rcases (Bool.or_eq_true _ _).mp hy with q | q
        · exact (bd _ _ q).2
        · exact (bd _ _ q).1
      have := of_decide_eq_true (h y (mem_belRow.mpr ⟨hyn, hy⟩))
      rwa [hh y hyn] at this
    · obtain ⟨h1, h2⟩ := mem_belRow.mp hy
      rw [hh y h1]
      exact decide_eq_true (h y h2)
  obtain ⟨h1, h2, h3⟩ := nxt_some.mp hx
  exact find_range.mpr ⟨(key x h2).trans h1, h2, fun y hy => (key y (by omega)).trans (h3 y hy)⟩
theorem split_ix {f : Nat → Nat} {x : Nat} : ∀ {ix : List Nat}, x ∈ ix.map f → ∃ p k s, ix = p ++ k :: s ∧ f k = x ∧ ∀ j ∈ p, f j ≠ x
  | [], h => by simp at h
  | k :: s, h => by
    by_cases e : f k = x
    · exact ⟨[], k, s, rfl, e, fun j hj => by simp at hj⟩
    · have h' : x ∈ s.map f := by
        rcases List.mem_cons.mp h with q | q
        · exact absurd q.symm e
        · exact q
      obtain ⟨p, j, t, e1, e2, e3⟩ := split_ix h'
      refine ⟨k :: p, j, t, by rw [e1]; rfl, e2, fun i hi => ?_⟩
      rcases List.mem_cons.mp hi with rfl | hi
      · exact e
      · exact e3 i hi
theorem fil_none {f : Nat → Nat} {x : Nat} {p : List Nat} (h : ∀ j ∈ p, f j ≠ x) : (p.filter fun k => f k == x) = [] := by
  rw [List.filter_eq_nil_iff]
  intro j hj
  rw [beq_iff_eq]
  exact h j hj
theorem fil_split {f : Nat → Nat} {x k : Nat} {p s : List Nat} (hk : f k = x) (h : ∀ j ∈ p, f j ≠ x) : ((p ++ k :: s).filter fun k => f k == x) = k :: (s.filter fun k => f k == x) ∧ ((p ++ s).filter fun k => f k == x) = (s.filter fun k => f k == x) := by
  rw [List.filter_append, List.filter_append, fil_none h, List.nil_append, List.nil_append, List.filter_cons, if_pos (by rw [hk]; exact beq_self_eq_true x)]
  exact ⟨rfl, rfl⟩
theorem fil_other {f : Nat → Nat} {x y k : Nat} {p s : List Nat} (hk : f k = x) (h : x ≠ y) : ((p ++ k :: s).filter fun k => f k == y) = ((p ++ s).filter fun k => f k == y) := by
  rw [List.filter_append, List.filter_append, List.filter_cons, if_neg (by rw [hk, beq_iff_eq]; exact h)]
theorem erase_ix {f : Nat → Nat} {x k : Nat} {p s : List Nat} (hk : f k = x) (h : ∀ j ∈ p, f j ≠ x) : ((p ++ k :: s).map f).erase x = (p ++ s).map f := by
  have hx : x ∉ p.map f := fun q => by
    obtain ⟨j, hj, e⟩ := List.mem_map.mp q
    exact h j hj e
  rw [List.map_append, List.map_append, List.erase_append_right _ hx, List.map_cons, hk, List.erase_cons_head]
/-- where x stands in l, below i -/
def posn (l : List Nat) (i x : Nat) : List Nat := (List.range i).filter fun k => l.getD k 0 == x
theorem posn_succ {l : List Nat} {i x : Nat} : posn l (i + 1) x = posn l i x ++ (if l.getD i 0 = x then [i] else []) := by
  unfold posn
  rw [List.range_succ, List.filter_append, List.filter_cons, List.filter_nil]
  by_cases e : l.getD i 0 = x
  · rw [if_pos e, if_pos (by rw [beq_iff_eq]; exact e)]
  · rw [if_neg e, if_neg (by rw [beq_iff_eq]; exact e)]
theorem posn_len {l : List Nat} {i x : Nat} : (posn l i x).length ≤ i := by
  have := List.length_filter_le (fun k => l.getD k 0 == x) (List.range i)
  rwa [List.length_range] at this
theorem map_getD (l : List Nat) : (List.range l.length).map (fun k => l.getD k 0) = l := by
  apply List.ext_getElem?
  intro i
  rw [List.getElem?_map]
  by_cases h : i < l.length
  · rw [List.getElem?_range h, List.getElem?_eq_getElem h]
    show some (l.getD i 0) = _
    rw [List.getD_eq_getElem?_getD, List.getElem?_eq_getElem h]
    rfl
  · rw [List.getElem?_eq_none (by simp; omega), List.getElem?_eq_none (by omega)]
    rfl
/-- a table over the lamps -/
def tab {α : Type} (n : Nat) (g : Nat → α) : List α := (List.range n).map g
theorem tab_len {α : Type} {n : Nat} {g : Nat → α} : (tab n g).length = n := by simp [tab]
theorem tab_at {α : Type} {n x : Nat} {g : Nat → α} (h : x < n) : (tab n g)[x]? = some (g x) := by
  unfold tab
  rw [List.getElem?_map, List.getElem?_range h]
  rfl
theorem tab_set {α : Type} {n x : Nat} {g : Nat → α} {v : α} : (tab n g).set x v = tab n (fun y => if y = x then v else g y) := by
  apply List.ext_getElem?
  intro i
  rw [List.getElem?_set]
  by_cases hi : i < n
  · rw [tab_len, tab_at hi, tab_at hi]
    by_cases e : x = i
    · subst e
      rw [if_pos rfl, if_pos hi, if_pos rfl]
    · rw [if_neg e, if_neg (Ne.symm e)]
  · have e1 : ∀ f : Nat → α, (tab n f)[i]? = none := fun f => List.getElem?_eq_none (by rw [tab_len]; omega)
    rw [e1, e1, tab_len]
    by_cases e : x = i
    · rw [if_pos e, if_neg (by omega)]
    · rw [if_neg e]
theorem tab_congr {α : Type} {n : Nat} {f g : Nat → α} (h : ∀ x, x < n → f x = g x) : tab n f = tab n g := List.map_congr_left fun x hx => h x (List.mem_range.mp hx)
theorem tab_getD {n x : Nat} {g : Nat → Nat} (h : x < n) : (tab n g).getD x 0 = g x := by
  rw [List.getD_eq_getElem?_getD, tab_at h]
  rfl
theorem cnst_tab {n : Nat} {k : Nat} : (List.range n).filterMap (fun _ => some (vN k)) = vNs (tab n fun _ => k) := by
  have e : (fun _ : Nat => some (vN k)) = some ∘ (fun _ => vN k) := rfl
  rw [e, List.filterMap_eq_map]
  unfold tab vNs
  rw [List.map_map]
  rfl
theorem fm_tab {n : Nat} {g : Nat → Nat} : (List.range n).filterMap (fun i => some (vN (g i))) = vNs (tab n g) := by
  have e : (fun i : Nat => some (vN (g i))) = some ∘ (fun i => vN (g i)) := rfl
  rw [e, List.filterMap_eq_map]
  unfold tab vNs
  rw [List.map_map]
  rfl

/-! ### rows that change -/
theorem Rows.set {H : Hp} {as : List Addr} {rows : List (List Nat)} (h : Rows H as rows) (nd : as.Nodup) {x : Nat} {q : Addr} {r : List Nat} (hq : as[x]? = some q) : Rows (upd H q (.lst (vNs r))) as (rows.set x r) := by
  refine ⟨by rw [h.1, List.length_set], fun i p s h1 h2 => ?_⟩
  rw [List.getElem?_set] at h2
  by_cases e : x = i
  · subst e
    rw [if_pos rfl] at h2
    rw [hq] at h1
    cases h1
    have hx : x < rows.length := by
      rw [← h.1]
      exact lt_at hq
    rw [if_pos hx] at h2
    cases h2
    exact upd_same
  · rw [if_neg e] at h2
    have hpq : p ≠ q := fun z => by
      subst z
      exact e ((List.getElem?_inj (lt_at hq) nd).mp (hq.trans h1.symm))
    rw [upd_ne hpq]
    exact h.2 i p s h1 h2
theorem ty_list {K : PySem.W.Frag} {p : Addr} {H : Hp} {xs : List V} (h : H p = some (.lst xs)) : tyV K "list" (.ref p) H := .inl ⟨rfl, xs, SqL.of h⟩
theorem r_app1 {K : PySem.W.Frag} {σ : L2.St} {H : Hp} {Q : VK} {i : Nat} {p : Addr} {xs : List V} {te : TE} (e : σ[i]? = some (some (.ref p))) (h : H p = some (.lst xs)) (q : te σ H fun y H1 => rAppend (.ref p) [y] H1 Q) : tBM K "list" rAppend (tVar i) (tCons te tNil) σ H Q := ⟨_, e, ty_list h, q⟩
theorem r_app2 {K : PySem.W.Frag} {σ : L2.St} {H : Hp} {Q : VK} {i j x : Nat} {p0 p : Addr} {zs xs : List V} {te : TE} (e : σ[i]? = some (some (.ref p0))) (e2 : σ[j]? = some (some (vN x))) (h0 : H p0 = some (.lst zs)) (hz : zs[x]? = some (.ref p)) (h : H p = some (.lst xs)) (q : te σ H fun y H1 => rAppend (.ref p) [y] H1 Q) :
    tBM K "list" rAppend (tOp (rIxL K) (tVar i) (tVar j)) (tCons te tNil) σ H Q := ⟨_, e, _, e2, ixL h0 hz ⟨ty_list h, q⟩⟩
theorem r_ins1 {K : PySem.W.Frag} {σ : L2.St} {H : Hp} {Q : VK} {i : Nat} {p : Addr} {xs : List V} {ta te : TE} (e : σ[i]? = some (some (.ref p))) (h : H p = some (.lst xs)) (q : ta σ H fun x H1 => te σ H1 fun y H2 => rInsert (.ref p) [x, y] H2 Q) : tBM K "list" rInsert (tVar i) (tCons ta (tCons te tNil)) σ H Q := ⟨_, e, ty_list h, q⟩
/-- [[] for _ in ..]: new lists, each another -/
theorem lc_empty {J : It} {n : Nat} {G : Hp → Prop} {Y : Nat → Hp → V → Hp → Prop} {g : TG} {vs : List Nat} {σ : L2.St} {H1 : Hp} {D : Addr} {Qd : Hp → Prop} (w : Walk J n G Y)
    (hn : n ≤ 10000) (hD : H1 D = Option.none) (hG : ∀ H, Same H1 H → G H) (hY : ∀ i H x H', Y i H x H' → H' = H)
    (hg : ∀ x H' (Q : L2.St → Hp → Prop), (∀ σ2, wipe σ2 vs = wipe σ vs → Q σ2 H') → g x (wipe σ vs) H' Q)
    (hd : ∀ (as : List Addr) H, as.length = n → as.Nodup → (∀ q ∈ as, H1 q = Option.none ∧ q ≠ D) → Same H1 H → H D = some (.lst (as.map V.ref)) → (∀ q ∈ as, H q = some (.lst [])) → Qd H) :
    ∃ W : Nat → Nat → Hp → Prop, (∃ m, W 0 m (upd H1 D (.lst []))) ∧ ∀ i m H, W i m H →
      (J.stop i H ∧ Qd H) ∨ (J.go i H ∧ ∃ Nx : Hp → Prop, (∀ H', Nx H' → ∃ m', m' < m ∧ W (i + 1) m' H') ∧ ∀ x H', J.yld i H x H' → g x (wipe σ vs) H' fun σ2 H2 => wipe σ2 vs = wipe σ vs ∧ tYes σ2 H2 fun b H3 =>
        if b = true then (tLst tNil) σ2 H3 fun y H4 => ∃ acc, H4 D = some (.lst acc) ∧ acc.length < sizeLine ∧ Nx (upd H4 D (.lst (acc ++ [y]))) else Nx H3) := by
  refine lc_it w (fun i H => Same H1 H ∧ ∃ as : List Addr, as.length = i ∧ as.Nodup ∧ (∀ q ∈ as, (H1 q = Option.none ∧ q ≠ D) ∧ H q = some (.lst [])) ∧ H D = some (.lst (as.map V.ref))) ⟨sm_new hD, [], rfl, List.nodup_nil, fun q hq => by simp at hq, upd_same⟩ (fun i H _ p => hG H p.1) ?_
    (fun H ⟨sm, as, e, nd, ha, hl⟩ => hd as H e nd (fun q hq => (ha q hq).1) sm hl fun q hq => (ha q hq).2)
  rintro i x H H' hi ⟨sm, as, e, nd, ha, hl⟩ y
  cases hY _ _ _ _ y
  refine hg _ _ _ fun σ2 hσ => ⟨hσ, yesT ?_⟩
  refine ⟨Nat.zero_le _, fun p hp => ?_⟩
  have hpD : D ≠ p := ne_of_none hl hp
  have hpa : p ∉ as := fun q => by
    rw [(ha p q).2] at hp
    cases hp
  refine ⟨as.map V.ref, by rw [upd_ne hpD]; exact hl, n_lt (by rw [List.length_map]; omega), sm_mut (sm.trans (sm_new hp)) hD, as ++ [p], by simp [e], ?_, fun q hq => ?_, by rw [upd_same]; simp⟩
  · rw [List.nodup_append]
    refine ⟨nd, by simp, fun a h1 b h2 => ?_⟩
    have e2 : b = p := by simpa using h2
    subst e2
    exact fun q => hpa (q ▸ h1)
  · rcases List.mem_append.mp hq with hq | hq
    · obtain ⟨⟨h1, h2⟩, h3⟩ := ha q hq
      refine ⟨⟨h1, h2⟩, ?_⟩
      rw [upd_ne h2, upd_ne (ne_of_none h3 hp)]
      exact h3
    · have e2 : q = p := by simpa using hq
      subst e2
      refine ⟨⟨sm.free hp, Ne.symm hpD⟩, ?_⟩
      rw [upd_ne (Ne.symm hpD), upd_same]
theorem rows_empty {H : Hp} {as : List Addr} {n : Nat} (hl : as.length = n) (h : ∀ q ∈ as, H q = some (.lst [])) : Rows H as (tab n fun _ => []) :=
  ⟨by rw [hl, tab_len], fun i p r h1 h2 => by
    have hi : i < n := by
      rw [← hl]
      exact lt_at h1
    rw [tab_at hi] at h2
    cases h2
    exact h p (mem_at h1)⟩
/-- a change of one of the rows changes nothing that stood -/
theorem sm_row {H H' : Hp} {as : List Addr} {x : Nat} {q : Addr} {o : HO} (s : Same H H') (h : ∀ q ∈ as, H q = Option.none) (hq : as[x]? = some q) : Same H (upd H' q o) := sm_mut s (h q (mem_at hq))
end Hue
end
section
set_option maxHeartbeats 4000000
namespace Hue
open PySem PySem.Spec PyProof.Rows L2

theorem p_is_integer {K : PySem.W.Frag} : ∀ vs H Q E, sp_is_integer K vs H Q E → vs.length = 1 ∧ t_is_integer K { nx := fun _ H' => Q .non H', rt := Q } (start N_is_integer vs) H := by
  rintro vs H Q E ⟨x, rfl, px, q⟩
  refine ⟨rfl, ?_⟩
  obtain ⟨t1, ty1, k1⟩ := px.kitI (K := K)
  obtain ⟨t2, ty2, k2⟩ := px.kitB (K := K)
  refine ⟨_, rfl, x, _, t1, _, _, rfl, .ty "int", ty1, k1, _, rfl, ?_⟩
  have fin : ∀ b, b = isI x → Q (.bl b) H := fun b e => by rw [e]; exact q
  cases e1 : isIB x with
  | false => exact iteF (fin _ (by rw [← isI_eq, e1]; rfl))
  | true => exact iteT ⟨_, rfl, x, _, t2, _, _, rfl, .ty "bool", ty2, k2, _, rfl, fin _ (by rw [← isI_eq, e1]; rfl)⟩

theorem p_is_lamp {K : PySem.W.Frag} : ∀ vs H Q E, sp_is_lamp K vs H Q E → vs.length = 2 ∧ t_is_lamp K { nx := fun _ H' => Q .non H', rt := Q } (start N_is_lamp vs) H := by
  rintro vs H Q E ⟨a, x, B, n, h, rfl, hh, px, q⟩
  refine ⟨rfl, ?_⟩
  refine ⟨_, rfl, x, rfl, px, _, rfl, ?_⟩
  cases x with
  | int i =>
    refine iteT ⟨_, rfl, _, _, rfl, rfl, _, rfl, ?_⟩
    have e : isLampV n (.int i) = (decide (0 ≤ i) && decide (i < n)) := rfl
    rw [e] at q
    cases h0 : decide (0 ≤ i) with
    | false =>
      rw [h0] at q
      exact iteF q
    | true =>
      rw [h0] at q
      refine iteT (r_count rfl hh ?_)
      exact ⟨_, _, rfl, rfl, q⟩
  | _ => exact iteF q

theorem p_bits {K : PySem.W.Frag} : ∀ vs H Q E, sp_bits K vs H Q E → vs.length = 1 ∧ t_bits K { nx := fun _ H' => Q .non H', rt := Q } (start N_bits vs) H := by
  rintro vs H Q E ⟨m, n, rfl, hn, hm, q⟩
  refine ⟨rfl, ?_⟩
  have hb := bits_small hm
  have e : (List.range n).filter m.testBit = (List.range (Builtin.Int.intBits (m : Int))).filter m.testBit := filter_range_eq (fun w hw => bits_le hw) hm
  rw [e] at q
  refine ⟨_, rfl, _, rfl, _, rfl, by omega, by omega, fun D hD => lc_range (lo := 0) (n := Builtin.Int.intBits (m : Int)) (fun i H' => Same H H' ∧ H' D = some (.lst (vNs ((List.range i).filter m.testBit)))) ⟨sm_new hD, upd_same⟩ ?_ ?_⟩
  · rintro i H' hi ⟨s, hl⟩
    refine ⟨rfl, _, rfl, _, rfl, _, _, rfl, rfl, (by omega), _, _, rfl, rfl, rfl, _, rfl, ?_⟩
    rw [show (0 : Int) + (i : Int) = (i : Int) from Int.zero_add _, bit_is]
    cases hb : m.testBit i with
    | false =>
      refine iteF ⟨s, ?_⟩
      rw [filter_take_succ, hb]
      simpa using hl
    | true =>
      refine iteT ⟨_, rfl, _, hl, ?_, sm_mut s hD, ?_⟩
      · refine n_lt ?_
        rw [List.length_map]
        have := List.length_filter_le m.testBit (List.range i)
        rw [List.length_range] at this
        omega
      · rw [upd_same, filter_take_succ, hb]
        simp
  · rintro H' ⟨s, hl⟩
    exact q D H' hD s hl

theorem p_below_masks {K : PySem.W.Frag} : ∀ vs H Q E, sp_below_masks K vs H Q E → vs.length = 1 ∧ t_below_masks K { nx := fun _ H' => Q .non H', rt := Q } (start N_below_masks vs) H := by
  rintro vs H Q E ⟨a, B, n, h, rfl, hh, q⟩
  exact ⟨rfl, r_below rfl hh q⟩
theorem p_above_masks {K : PySem.W.Frag} : ∀ vs H Q E, sp_above_masks K vs H Q E → vs.length = 1 ∧ t_above_masks K { nx := fun _ H' => Q .non H', rt := Q } (start N_above_masks vs) H := by
  rintro vs H Q E ⟨a, B, n, h, rfl, hh, q⟩
  exact ⟨rfl, r_above rfl hh q⟩
theorem p_turned_down {K : PySem.W.Frag} : ∀ vs H Q E, sp_turned_down K vs H Q E → vs.length = 2 ∧ t_turned_down K { nx := fun _ H' => Q .non H', rt := Q } (start N_turned_down vs) H := by
  rintro vs H Q E ⟨x, h, rfl, q⟩
  refine ⟨rfl, _, rfl, _, _, rfl, rfl, _, rfl, ?_⟩
  unfold td at q
  by_cases hx : 0 < x
  · rw [if_pos hx] at q
    rw [decide_eq_true hx]
    exact iteT ⟨_, rfl, _, _, rfl, rfl, q⟩
  · rw [if_neg hx] at q
    rw [decide_eq_false hx]
    exact iteF ⟨_, rfl, _, _, rfl, rfl, q⟩

theorem p_is_state {K : PySem.W.Frag} : ∀ vs H Q E, sp_is_state K vs H Q E → vs.length = 2 ∧ t_is_state K { nx := fun _ H' => Q .non H', rt := Q } (start N_is_state vs) H := by
  rintro vs H Q E ⟨a, t, B, n, h, s, rfl, hh, hs, q⟩
  refine ⟨rfl, ?_⟩
  refine ⟨_, rfl, _, _, _, _, _, rfl, .ty "tuple", .base (.tup hs.at_), kit_ty (a := "tuple") (b := "tuple") (r := true) (by decide +kernel), true, rfl, ?_⟩
  refine iteF ⟨_, rfl, _, _, rfl, .inr (SqT.of hs.at_), r_count rfl hh ?_⟩
  refine ⟨rfl, _, rfl, ?_⟩
  rw [stV_len]
  refine iteNS rfl ?_
  refine ⟨_, rfl, t, rfl, ⟨_, SqT.of hs.at_⟩, fun D hD => lc_tup (xs := stV n s) (fun i H' => Same H H' ∧ H' D = some (.lst (List.replicate i (V.bl true)))) ⟨sm_new hD, upd_same⟩ (fun i H' _ p => sqT_mono p.1 (SqT.of hs.at_)) ?_ ?_⟩
  · rintro i x H' hx ⟨sm, hl⟩
    have hi : i < n := by
      have := (List.getElem?_eq_some_iff.mp hx).1
      rwa [stV_len] at this
    have ex : x = .int (s i) := by
      rw [stV_at hi] at hx
      exact (Option.some.inj hx).symm
    subst ex
    have hh' := hh.mono sm
    have i1 : ∀ H2, Same H H2 → H2 D = some (.lst (List.replicate i (V.bl true))) → ∃ acc, H2 D = some (.lst acc) ∧ acc.length < sizeLine ∧ Same H (upd H2 D (.lst (acc ++ [V.bl true]))) ∧ (upd H2 D (.lst (acc ++ [V.bl true]))) D = some (.lst (List.replicate (i + 1) (V.bl true))) := fun H2 s2 h2 =>
      ⟨_, h2, n_lt (by rw [List.length_replicate]; have := hh.n16; omega), sm_mut s2 hD, by rw [upd_same, List.replicate_succ']⟩
    refine ⟨rfl, yesT ?_⟩
    refine ⟨_, rfl, _, rfl, .int _, _, rfl, ?_⟩
    refine iteT ?_
    refine ⟨_, rfl, _, _, rfl, rfl, _, rfl, ?_⟩
    rw [decide_eq_true (hs.lo i)]
    refine iteT (r_hues rfl hh' ?_)
    exact ltI (decide_eq_true (hs.hi i)) (i1 _ sm hl)
  · rintro H' ⟨sm, hl⟩
    refine ⟨D, List.replicate n true, rfl, SqL.of ?_, ?_⟩
    · rw [List.map_replicate]
      rwa [stV_len] at hl
    · have e : (List.replicate n true).all id = true := by simp
      rw [e]
      exact q _ sm

theorem p_need_lamp {K : PySem.W.Frag} : ∀ vs H Q E, sp_need_lamp K vs H Q E → vs.length = 2 ∧ t_need_lamp K E { nx := fun _ H' => Q .non H', rt := Q } (start N_need_lamp vs) H := by
  rintro vs H Q E ⟨a, x, B, n, h, rfl, hh, px, q1, q2⟩
  refine ⟨rfl, ?_⟩
  refine ⟨_, rfl, _, rfl, a, x, B, n, h, rfl, hh, px, _, rfl, ?_⟩
  cases e : isLampV n x with
  | true => exact iteF (q1 e)
  | false => exact iteT ⟨_, rfl, q2 e⟩
theorem p_need_state {K : PySem.W.Frag} : ∀ vs H Q E, sp_need_state K vs H Q E → vs.length = 2 ∧ t_need_state K { nx := fun _ H' => Q .non H', rt := Q } (start N_need_state vs) H := by
  rintro vs H Q E ⟨a, t, B, n, h, s, rfl, hh, hs, q⟩
  refine ⟨rfl, ?_⟩
  exact ⟨_, rfl, _, rfl, a, t, B, n, h, s, rfl, hh, hs, fun H' sm => ⟨_, rfl, iteF (q H' sm)⟩⟩

theorem p_need_run {K : PySem.W.Frag} : ∀ vs H Q E, sp_need_run K vs H Q E → vs.length = 2 ∧ t_need_run K E { nx := fun _ H' => Q .non H', rt := Q } (start N_need_run vs) H := by
  rintro vs H Q E ⟨a, r, xs, B, n, h, rfl, hh, hr, px, q1, q2⟩
  refine ⟨rfl, ?_⟩
  refine ⟨_, rfl, r, rfl, ⟨xs, SqL.of hr⟩, for_list (K := K) (a := r) (xs := xs) (fun i σ H' => H' = H ∧ (∃ v, σ = [some (.ref a), some (.ref r), v]) ∧ badV n xs = badV n (xs.drop i)) ⟨rfl, ⟨_, rfl⟩, rfl⟩ (fun i σ H' _ p => by rw [p.1]; exact SqL.of hr) ?_ ?_⟩
  · rintro i x σ H' hx ⟨rfl, ⟨v, rfl⟩, hb⟩
    have hd : xs.drop i = x :: xs.drop (i + 1) := by
      obtain ⟨hi, e⟩ := List.getElem?_eq_some_iff.mp hx
      rw [List.drop_eq_getElem_cons hi, e]
    have pxx := px x (List.mem_of_getElem? hx)
    rw [hd, badV_cons] at hb
    refine ⟨_, rfl, _, rfl, a, x, B, n, h, rfl, hh, pxx, fun e => ?_, fun e => ?_⟩
    · rw [if_pos e] at hb
      exact ⟨rfl, ⟨_, rfl⟩, hb⟩
    · rw [if_neg (by rw [e]; exact Bool.false_ne_true)] at hb
      exact q2 x hb
  · rintro σ H' ⟨rfl, _, hb⟩
    refine q1 ?_
    rw [hb, List.drop_length]
    rfl
end Hue
end
section
set_option maxHeartbeats 4000000
namespace Hue
open PySem PySem.Spec PyProof.Rows L2

theorem p_lit_beneath {K : PySem.W.Frag} : ∀ vs H Q E, sp_lit_beneath K vs H Q E → vs.length = 3 ∧ t_lit_beneath K { nx := fun _ H' => Q .non H', rt := Q } (start N_lit_beneath vs) H := by
  rintro vs H Q E ⟨a, t, v, B, n, h, s, rfl, hh, hs, hv, q⟩
  refine ⟨rfl, ?_⟩
  refine bits_below (i := 0) (j := 2) rfl rfl hh hv fun p H1 hp sm hl => ?_
  refine ⟨p, rfl, ⟨_, SqL.of hl⟩, for_list (xs := vNs (belRow B n v)) (fun i σ H' => H' = H1 ∧ (∃ o, σ = [some (.ref a), some (.ref t), some (vN v), o]) ∧ litB B n s v = ((belRow B n v).drop i).find? fun w => decide (0 < s w)) ⟨rfl, ⟨_, rfl⟩, rfl⟩ (fun i σ H' _ e => by rw [e.1]; exact SqL.of hl) ?_ ?_⟩
  · rintro i x σ H' hx ⟨rfl, ⟨o, rfl⟩, hb⟩
    obtain ⟨w, hw, rfl⟩ := of_vNs hx
    rw [drop_at hw, List.find?_cons] at hb
    have hwn : w < n := (mem_belRow.mp (mem_at hw)).1
    refine ⟨_, rfl, _, rfl, ixS (sm _ _ hs.at_) hwn ?_⟩
    refine ⟨_, _, rfl, rfl, _, rfl, ?_⟩
    cases e : decide (0 < s w) with
    | true =>
      rw [e] at hb
      refine iteT ⟨_, rfl, ?_⟩
      have := q H' sm
      rwa [hb] at this
    | false =>
      rw [e] at hb
      exact iteF ⟨rfl, ⟨_, rfl⟩, hb⟩
  · rintro σ H' ⟨rfl, ⟨o, rfl⟩, hb⟩
    rw [vNs_len, List.drop_length] at hb
    have := q H' sm
    rwa [hb] at this

theorem p_moved {K : PySem.W.Frag} : ∀ vs H Q E, sp_moved K vs H Q E → vs.length = 3 ∧ t_moved K { nx := fun _ H' => Q .non H', rt := Q } (start N_moved vs) H := by
  rintro vs H Q E ⟨a, t, v, B, n, h, s, rfl, hh, ir, hs, hv, h0, q⟩
  refine ⟨rfl, ?_⟩
  refine r_hues (i := 0) rfl hh ?_
  refine ⟨_, rfl, t, _, rfl, .inr (SqT.of hs.at_), fun R hR => ?_⟩
  have s1 : Same H (upd H R (.lst (stV n s))) := sm_new hR
  refine ⟨_, rfl, _, rfl, ixS (s1 _ _ hs.at_) hv ?_⟩
  refine ⟨_, _, rfl, rfl, _, rfl, _, rfl, stl upd_same (by rw [stV_len]; exact hv) ?_⟩
  rw [stV_set]
  have s2 : Same H (upd (upd H R (.lst (stV n s))) R (.lst (stV n fun j => if j = v then s v - 1 else s j))) := sm_mut s1 hR
  refine bits_below (i := 0) (j := 2) rfl rfl (hh.mono s2) hv fun p H1 hp sm hl => ?_
  have hpR : p ≠ R := fun e => by
    rw [e, upd_same] at hp
    cases hp
  have s3 : Same H H1 := s2.trans sm
  have hR1 : H1 R = some (.lst (stV n fun j => if j = v then s v - 1 else s j)) := sm _ _ upd_same
  refine ⟨p, rfl, ⟨_, SqL.of hl⟩, for_list (xs := vNs (belRow B n v)) (fun i σ H' => Same H H' ∧ H' p = some (.lst (vNs (belRow B n v))) ∧ (∃ o, σ = [some (.ref a), some (.ref t), some (vN v), some (.int h), some (.ref R), o]) ∧
    H' R = some (.lst (stV n fun j => if j = v then s v - 1 else if j ∈ (belRow B n v).take i then td h (s j) else s j))) ⟨s3, hl, ⟨_, rfl⟩, ?_⟩ (fun i σ H' _ e => SqL.of e.2.1) ?_ ?_⟩
  · rw [hR1]
    simp
  · rintro i x σ H' hx ⟨sm', hl', ⟨o, rfl⟩, hb⟩
    obtain ⟨w, hw, rfl⟩ := of_vNs hx
    have hm := mem_belRow.mp (mem_at hw)
    have hwv : w ≠ v := fun e => by
      rw [e, ir] at hm
      cases hm.2
    refine ⟨_, rfl, _, rfl, ixS (sm' _ _ hs.at_) hm.1 ?_⟩
    refine ⟨_, rfl, s w, h, rfl, ?_⟩
    refine ⟨_, rfl, _, rfl, stl hb (by rw [stV_len]; exact hm.1) ?_⟩
    refine ⟨sm_mut sm' hR, by rw [upd_ne hpR]; exact hl', ⟨_, rfl⟩, ?_⟩
    rw [upd_same, stV_set, take_at hw]
    refine congrArg (fun z => some (HO.lst z)) (stV_congr fun j _ => ?_)
    by_cases e : j = w
    · subst e
      rw [if_pos rfl, if_neg hwv, if_pos (by simp)]
    · rw [if_neg e]
      by_cases e2 : j = v
      · rw [if_pos e2, if_pos e2]
      · rw [if_neg e2, if_neg e2]
        simp [e]
  · rintro σ H' ⟨sm', hl', ⟨o, rfl⟩, hb⟩
    refine ⟨_, rfl, R, _, rfl, .inl ⟨SqL.of hb, fun z hz => ?_⟩⟩
    have e : stV n (fun j => if j = v then s v - 1 else if j ∈ (belRow B n v).take (vNs (belRow B n v)).length then td h (s j) else s j) = stV n (mv B h s v) := stV_congr fun j hj => by
      unfold mv
      rw [vNs_len, List.take_length]
      by_cases e : j = v
      · rw [if_pos e, if_pos e, e]
      · rw [if_neg e, if_neg e]
        by_cases e2 : B v j = true
        · rw [if_pos (mem_belRow.mpr ⟨hj, e2⟩), if_pos e2]
        · rw [if_neg (fun z => e2 (mem_belRow.mp z).2), if_neg e2]
    rw [e]
    exact q.at sm' z hz

theorem litB_none {B : Bel} {n : Nat} {s : Nat → Int} {v : Nat} : decide (optV (litB B n s v) = V.non) = (List.range n).all fun w => !(B v w) || !decide (0 < s w) := by
  rw [Bool.eq_iff_iff, decide_eq_true_eq, List.all_eq_true]
  have e : optV (litB B n s v) = V.non ↔ litB B n s v = none := by
    cases litB B n s v with
    | none => exact ⟨fun _ => rfl, fun _ => rfl⟩
    | some x => exact ⟨fun h => (by cases h), fun h => (by cases h)⟩
  rw [e]
  unfold litB
  rw [List.find?_eq_none]
  constructor
  · intro h w hw
    cases e : B v w with
    | false => rfl
    | true =>
      have := h w (mem_belRow.mpr ⟨List.mem_range.mp hw, e⟩)
      simpa using this
  · intro h w hw
    obtain ⟨h1, h2⟩ := mem_belRow.mp hw
    have := h w (List.mem_range.mpr h1)
    rw [h2] at this
    simpa using this

theorem p_can_move {K : PySem.W.Frag} : ∀ vs H Q E, sp_can_move K vs H Q E → vs.length = 4 ∧ t_can_move K { nx := fun _ H' => Q .non H', rt := Q } (start N_can_move vs) H := by
  rintro vs H Q E ⟨a, t, v, g, B, n, h, s, rfl, hh, hs, hv, q⟩
  refine ⟨rfl, ?_⟩
  refine ⟨_, rfl, _, rfl, ixS hs.at_ hv ?_⟩
  refine kc (eqI ?_)
  refine ⟨_, rfl, ?_⟩
  unfold okm at q
  have ez : (s v == 0) = decide (s v = 0) := by rw [Bool.eq_iff_iff, beq_iff_eq, decide_eq_true_eq]
  rw [ez] at q
  cases e : decide (s v = 0) with
  | true =>
    rw [e] at q
    exact iteT (q H (Same.refl _))
  | false =>
    rw [e] at q
    refine iteF ⟨_, rfl, g, rfl, _, rfl, ?_⟩
    cases g with
    | false => exact iteT (q H (Same.refl _))
    | true =>
      refine iteF ?_
      refine ⟨_, rfl, _, rfl, _, rfl, a, t, v, B, n, h, s, rfl, hh, hs, hv, fun H' sm => ⟨rfl, ?_⟩⟩
      rw [litB_none]
      exact q H' sm

theorem p_refuse {K : PySem.W.Frag} : ∀ vs H Q E, sp_refuse K vs H Q E → vs.length = 5 ∧ t_refuse K { nx := fun _ H' => Q .non H', rt := Q } (start N_refuse vs) H := by
  rintro vs H Q E ⟨a, t, v, k, g, B, n, h, s, rfl, hh, hs, hv, ok, q⟩
  refine ⟨rfl, ?_⟩
  obtain ⟨ok1, ok2⟩ := (Bool.and_eq_true _ _).mp ok
  refine ⟨_, rfl, _, rfl, ixS hs.at_ hv ?_⟩
  refine kc (eqI ⟨_, rfl, ?_⟩)
  rw [decide_eq_false (by simpa using ok1)]
  refine iteF ⟨_, rfl, g, rfl, ?_⟩
  cases g with
  | false => exact iteF (q H (Same.refl _))
  | true =>
    refine iteT ⟨_, rfl, _, rfl, _, rfl, a, t, v, B, n, h, s, rfl, hh, hs, hv, fun H' sm => ?_⟩
    refine ⟨_, rfl, ⟨rfl, _, rfl, ?_⟩⟩
    rw [litB_none]
    have e : ((List.range n).all fun w => !(B v w) || !decide (0 < s w)) = true := ok2
    rw [e]
    exact iteF (q H' sm)

theorem pl_mono {H H' : Hp} {xs : List V} (e : Same H H') (h : ∀ x ∈ xs, PlV H x) : ∀ x ∈ xs, PlV H' x := fun x hx => (h x hx).mono e
theorem st_mv {K : PySem.W.Frag} {H : Hp} {a p : Addr} {B : Bel} {n : Nat} {h : Int} {s : Nat → Int} {v : Nat} {g : Bool} (hh : HouseAt K H a B n h) (hp : H p = some (.tup (stV n (mv B h s v)))) (lo : ∀ i, 0 ≤ s i) (hi : ∀ i, s i < h) (ok : okm B n g s v = true) : StOk H p n h (mv B h s v) :=
  ⟨hp, mv_nonneg (by have := hh.h10; omega) lo (okm_iff.mp ok).1, mv_lt hi⟩

theorem p_play {K : PySem.W.Frag} : ∀ vs H Q E, sp_play K vs H Q E → vs.length = 4 ∧ t_play K { nx := fun _ H' => Q .non H', rt := Q } (start N_play vs) H := by
  rintro vs H Q E ⟨a, t, r, g, l, B, n, h, s, s', rfl, hh, ir, hs, hr, hl, hl2, hp, q⟩
  refine ⟨rfl, ?_⟩
  refine ⟨_, rfl, _, rfl, a, t, B, n, h, s, rfl, hh, hs, fun H1 sm1 => ?_⟩
  refine ⟨_, rfl, _, rfl, a, r, vNs l, B, n, h, rfl, hh.mono sm1, sm1 _ _ hr, pl_vNs, fun _ => ?_, fun x hx => ?_⟩
  · refine ⟨_, rfl, ?_⟩
    refine ⟨_, rfl, r, vNs l, rfl, SqL.of (sm1 _ _ hr), for_it walk_enum (fun i σ H' => Same H H' ∧ (∃ u o1 o2 si, σ = [some (.ref a), some (.ref t), some (.ref r), some (.bl g), some (.ref u), o1, o2] ∧ StOk H' u n h si ∧ playM B h n g (l.drop i) si = some s')) ⟨sm1, t, _, _, s, rfl, hs.mono sm1, hp⟩ (fun i σ H' _ e => SqL.of (e.1 _ _ hr)) ?_ ?_⟩
    · rintro i x σ H2 H3 hi ⟨sm2, u, o1, o2, si, rfl, hu, hp2⟩ ⟨T, y, z, rfl, hT, rfl, hy, hz⟩
      obtain ⟨w, hw, rfl⟩ := of_vNs hz
      cases Option.some.inj hy
      rw [drop_at hw] at hp2
      unfold playM at hp2
      have wn := hl w (mem_at hw)
      by_cases ok : okm B n g si w = true
      · rw [if_pos ok] at hp2
        have sm3 : Same H (upd H2 T (.tup [.int (i : Nat), vN w])) := sm2.trans (sm_new hT)
        have hu3 := hu.mono (sm_new (o := .tup [.int (i : Nat), vN w]) hT)
        refine ⟨T, _, rfl, SqT.of upd_same, rfl, _, _, rfl, _, _, rfl, rfl, ?_⟩
        refine ⟨_, rfl, _, rfl, _, rfl, _, rfl, _, rfl, a, u, w, _, g, B, n, h, si, rfl, hh.mono sm3, hu3, wn, ok, fun H4 sm4 => ?_⟩
        refine ⟨_, rfl, _, rfl, _, rfl, a, u, w, B, n, h, si, rfl, hh.mono (sm3.trans sm4), ir, hu3.mono sm4, wn, (okm_iff.mp ok).1, fun p H5 hp5 sm5 hq => ?_⟩
        exact ⟨sm3.trans (sm4.trans sm5), p, _, _, _, rfl, st_mv (hh.mono (sm3.trans (sm4.trans sm5))) hq hu.lo hu.hi ok, hp2⟩
      · rw [if_neg ok] at hp2
        cases hp2
    · rintro σ H2 ⟨sm2, u, o1, o2, si, rfl, hu, hp2⟩
      rw [vNs_len, List.drop_length] at hp2
      cases Option.some.inj hp2
      exact ⟨_, rfl, q u H2 sm2 hu⟩
  · rw [bad_none hl] at hx
    cases hx

theorem p_first_refused {K : PySem.W.Frag} : ∀ vs H Q E, sp_first_refused K vs H Q E → vs.length = 4 ∧ t_first_refused K { nx := fun _ H' => Q .non H', rt := Q } (start N_first_refused vs) H := by
  rintro vs H Q E ⟨a, t, r, g, l, B, n, h, s, s', rfl, hh, ir, hs, hr, hl, hl2, hp, q⟩
  refine ⟨rfl, ?_⟩
  refine ⟨_, rfl, _, rfl, a, t, B, n, h, s, rfl, hh, hs, fun H1 sm1 => ?_⟩
  refine ⟨_, rfl, _, rfl, a, r, vNs l, B, n, h, rfl, hh.mono sm1, sm1 _ _ hr, pl_vNs, fun _ => ?_, fun x hx => ?_⟩
  · refine ⟨_, rfl, ?_⟩
    refine ⟨_, rfl, r, vNs l, rfl, SqL.of (sm1 _ _ hr), for_it walk_enum (fun i σ H' => Same H H' ∧ (∃ u o1 o2 si, σ = [some (.ref a), some (.ref t), some (.ref r), some (.bl g), some (.ref u), o1, o2] ∧ StOk H' u n h si ∧ playM B h n g (l.drop i) si = some s')) ⟨sm1, t, _, _, s, rfl, hs.mono sm1, hp⟩ (fun i σ H' _ e => SqL.of (e.1 _ _ hr)) ?_ ?_⟩
    · rintro i x σ H2 H3 hi ⟨sm2, u, o1, o2, si, rfl, hu, hp2⟩ ⟨T, y, z, rfl, hT, rfl, hy, hz⟩
      obtain ⟨w, hw, rfl⟩ := of_vNs hz
      cases Option.some.inj hy
      rw [drop_at hw] at hp2
      unfold playM at hp2
      have wn := hl w (mem_at hw)
      by_cases ok : okm B n g si w = true
      · rw [if_pos ok] at hp2
        have sm3 : Same H (upd H2 T (.tup [.int (i : Nat), vN w])) := sm2.trans (sm_new hT)
        have hu3 := hu.mono (sm_new (o := .tup [.int (i : Nat), vN w]) hT)
        refine ⟨T, _, rfl, SqT.of upd_same, rfl, _, _, rfl, _, _, rfl, rfl, ?_⟩
        refine ⟨_, rfl, _, rfl, _, rfl, _, rfl, a, u, w, g, B, n, h, si, rfl, hh.mono sm3, hu3, wn, fun H4 sm4 => ?_⟩
        rw [ok]
        refine ⟨true, rfl, iteF ?_⟩
        refine ⟨_, rfl, _, rfl, _, rfl, a, u, w, B, n, h, si, rfl, hh.mono (sm3.trans sm4), ir, hu3.mono sm4, wn, (okm_iff.mp ok).1, fun p H5 hp5 sm5 hq => ?_⟩
        exact ⟨sm3.trans (sm4.trans sm5), p, _, _, _, rfl, st_mv (hh.mono (sm3.trans (sm4.trans sm5))) hq hu.lo hu.hi ok, hp2⟩
      · rw [if_neg ok] at hp2
        cases hp2
    · rintro σ H2 ⟨sm2, u, o1, o2, si, rfl, hu, hp2⟩
      exact q H2 sm2
  · rw [bad_none hl] at hx
    cases hx
end Hue
end
section
set_option maxHeartbeats 4000000
namespace Hue
open PySem PySem.Spec PyProof.Rows L2

theorem cnts_len {n : Nat} {l : List Nat} : (cnts n l).length = n := by simp [cnts]
theorem cnts_at {n x : Nat} {l : List Nat} (h : x < n) : (cnts n l)[x]? = some (l.count x) := by
  unfold cnts
  rw [List.getElem?_map, List.getElem?_range h]
  rfl
theorem cnts_snoc {n x : Nat} {l : List Nat} (h : x < n) : cnts n (l ++ [x]) = (cnts n l).set x (l.count x + 1) := by
  apply List.ext_getElem?
  intro i
  rw [List.getElem?_set]
  by_cases hi : i < n
  · rw [cnts_at hi, cnts_len, List.count_append, List.count_singleton]
    by_cases e : x = i
    · subst e
      rw [if_pos rfl, if_pos hi]
      simp
    · rw [if_neg e, cnts_at hi]
      simp [e]
  · have e1 : ∀ l : List Nat, (cnts n l)[i]? = none := fun f => List.getElem?_eq_none (by rw [cnts_len]; omega)
    rw [e1, e1]
    by_cases e : x = i
    · rw [if_pos e, cnts_len, if_neg (by omega)]
    · rw [if_neg e]
theorem cnts_nil {n : Nat} : (List.range n).filterMap (fun _ => some (V.int 0)) = vNs (cnts n []) := by
  have e : (fun _ : Nat => some (V.int 0)) = some ∘ (fun _ => V.int 0) := rfl
  rw [e, List.filterMap_eq_map]
  unfold cnts vNs
  rw [List.map_map]
  apply List.map_congr_left
  intro x _
  rfl

theorem p_counts_of {K : PySem.W.Frag} : ∀ vs H Q E, sp_counts_of K vs H Q E → vs.length = 2 ∧ t_counts_of K { nx := fun _ H' => Q .non H', rt := Q } (start N_counts_of vs) H := by
  rintro vs H Q E ⟨a, r, l, B, n, h, rfl, hh, hr, hl, q⟩
  refine ⟨rfl, ?_⟩
  refine ⟨_, rfl, _, rfl, a, r, vNs l, B, n, h, rfl, hh, hr, pl_vNs, fun _ => ?_, fun x hx => ?_⟩
  · have n16 := hh.n16
    refine r_count rfl hh ?_
    refine ⟨_, rfl, by omega, by omega, fun D hD => lc_fn (walk_range (lo := 0) (n := n)) (fun _ => some (.int 0)) (by omega) hD (fun _ _ => trivial) ?_ ?_⟩
    · rintro i x H1 H2 Qy Qn hi sm ⟨rfl, rfl⟩ h1 h2
      exact ⟨rfl, yesT (h1 _ _ rfl (Same.refl _))⟩
    · intro H1 sm hc
      rw [cnts_nil] at hc
      refine ⟨_, rfl, r, rfl, ⟨_, SqL.of (sm _ _ hr)⟩, for_list (xs := vNs l) (fun i σ H' => Same H H' ∧ (∃ o o2, σ = [some (.ref a), some (.ref r), some (.ref D), o, o2]) ∧ H' D = some (.lst (vNs (cnts n (l.take i))))) ⟨sm, ⟨_, _, rfl⟩, hc⟩ (fun i σ H' _ e => SqL.of (e.1 _ _ hr)) ?_ ?_⟩
      · rintro i x σ H' hx ⟨sm', ⟨o, o2, rfl⟩, hc'⟩
        obtain ⟨w, hw, rfl⟩ := of_vNs hx
        have wn := hl w (mem_at hw)
        refine ⟨_, rfl, _, rfl, ixl hc' (cnts_at wn) ?_⟩
        refine ⟨_, _, rfl, rfl, stl hc' (by rw [vNs_len, cnts_len]; exact wn) ?_⟩
        refine ⟨sm_mut sm' hD, ⟨_, _, rfl⟩, ?_⟩
        rw [upd_same, take_at hw, cnts_snoc wn, ← vNs_set]
        rfl
      · rintro σ H' ⟨sm', ⟨o, o2, rfl⟩, hc'⟩
        rw [vNs_len, List.take_length] at hc'
        exact ⟨_, rfl, q D H' hD sm' hc'⟩
  · rw [bad_none hl] at hx
    cases hx

theorem ll_of_rel {H : Hp} {p : Addr} {ys : List V} {rows : List (List Nat)} (hp : H p = some (.lst ys)) (hl : ys.length = rows.length) (h : ∀ (i : Nat) y, ys[i]? = some y → ∃ z r, y = .ref z ∧ rows[i]? = some r ∧ H z = some (.lst (vNs r))) : LLat H p rows := by
  have hex : ∀ y ∈ ys, ∃ z, y = V.ref z := fun y hy => by
    obtain ⟨i, hi⟩ := List.mem_iff_getElem?.mp hy
    obtain ⟨z, r, e, _⟩ := h i y hi
    exact ⟨z, e⟩
  have hlist : ∀ ys : List V, (∀ y ∈ ys, ∃ z, y = V.ref z) → ∃ as : List Addr, ys = as.map V.ref := by
    intro ys
    induction ys with
    | nil => exact fun _ => ⟨[], rfl⟩
    | cons y ys ih =>
      intro hy
      obtain ⟨z, rfl⟩ := hy y List.mem_cons_self
      obtain ⟨as, rfl⟩ := ih fun y q => hy y (List.mem_cons_of_mem _ q)
      exact ⟨z :: as, rfl⟩
  obtain ⟨as, rfl⟩ := hlist ys hex
  refine ⟨as, hp, by simpa using hl, fun i q r h1 h2 => ?_⟩
  obtain ⟨z, r', e1, e2, e3⟩ := h i (.ref q) (by rw [List.getElem?_map, h1]; rfl)
  cases e1
  rw [h2] at e2
  cases e2
  exact e3

theorem p_comparable_lamps {K : PySem.W.Frag} : ∀ vs H Q E, sp_comparable_lamps K vs H Q E → vs.length = 1 ∧ t_comparable_lamps K { nx := fun _ H' => Q .non H', rt := Q } (start N_comparable_lamps vs) H := by
  rintro vs H Q E ⟨a, B, n, h, rfl, hh, q⟩
  refine ⟨rfl, ?_⟩
  have n16 := hh.n16
  refine ⟨_, rfl, a, B, n, h, rfl, hh, fun lb hb => ?_⟩
  refine ⟨_, rfl, a, B, n, h, rfl, hh, fun la ha => ?_⟩
  refine r_count rfl hh ?_
  refine ⟨_, rfl, by omega, by omega, fun D hD => lc_rel (walk_range (lo := 0) (n := n)) (fun i y H' => ∃ z, y = .ref z ∧ H z = Option.none ∧ H' z = some (.lst (vNs (belRow (cmpB B) n i)))) (fun i y H1 H2 sm ⟨z, e, z0, hz⟩ => ⟨z, e, z0, sm _ _ hz⟩) (by omega) hD (fun _ _ => trivial) ?_ ?_ gn_mono⟩
  · rintro i x H1 H2 Qy hi sm ⟨ys, hys⟩ ⟨rfl, rfl⟩ h1
    obtain ⟨ms, m, b1, b2, b3, b4⟩ := (hb.mono sm).get hi
    obtain ⟨ns, m', c1, c2, c3, c4⟩ := (ha.mono sm).get hi
    refine ⟨rfl, ⟨_, rfl, .int (0 + (i : Int)), rfl, ?_⟩⟩
    rw [Int.zero_add]
    refine ixl b1 b3 ?_
    refine ⟨_, rfl, .int (0 + (i : Int)), rfl, ?_⟩
    rw [Int.zero_add]
    refine ixl c1 c3 ?_
    refine ⟨_, _, rfl, rfl, m ||| m', n, ?_, hh.n16.2, ?_, ?_⟩
    · show [V.int (Builtin.bitOr (m : Int) (m' : Int))] = _
      rw [or_nn]
    · intro w hw
      rw [Nat.testBit_or, b4, c4] at hw
      by_cases e : w < n
      · exact e
      · rw [decide_eq_false e] at hw
        simp at hw
    · intro p H3 hp s3 hl
      refine h1 _ _ ⟨p, rfl, sm.free hp, ?_⟩ s3
      have e : (List.range n).filter (m ||| m').testBit = belRow (cmpB B) n i := row_of (R := cmpB B) fun w => by
        rw [Nat.testBit_or, b4, c4]
        unfold cmpB rev
        cases decide (w < n) <;> rfl
      rw [e] at hl
      exact rm_of hl fun e => by
        rw [e, hys] at hp
        cases hp
  · intro ys H1 e1 e2 sm hD1
    have hn : ∀ i, i < ys.length → i < n := fun i hi => by omega
    have L : LLat H1 D (belRows (cmpB B) n) := ll_of_rel hD1 (by rw [e1, belRows_len]) fun i y hy => by
      obtain ⟨z, rfl, _, hz⟩ := e2 i y hy
      exact ⟨z, _, rfl, belRows_at (hn i (lt_at hy)), hz⟩
    obtain ⟨as, h1, h2⟩ := L
    refine q D as H1 hD (fun z hz => ?_) sm h1 h2
    rw [hD1] at h1
    have ey : ys = as.map V.ref := by
      injection h1 with h1
      injection h1
    obtain ⟨i, hi⟩ := List.mem_iff_getElem?.mp hz
    obtain ⟨z', e, z0, _⟩ := e2 i (.ref z) (by rw [ey, List.getElem?_map, hi]; rfl)
    cases e
    exact z0

theorem p_moves_at {K : PySem.W.Frag} : ∀ vs H Q E, sp_moves_at K vs H Q E → vs.length = 3 ∧ t_moves_at K { nx := fun _ H' => Q .non H', rt := Q } (start N_moves_at vs) H := by
  rintro vs H Q E ⟨r, x, y, l, rfl, hr, hl, q⟩
  refine ⟨rfl, ?_⟩
  refine ⟨_, rfl, r, rfl, ⟨_, SqL.of hr⟩, fun D hD => lc_fn (walk_list (xs := vNs l)) (fun i => (l[i]?).bind fun z => if (z == x || z == y) = true then some (vN z) else none) (by rw [vNs_len]; omega) hD (fun _ sm => SqL.of (sm _ _ hr)) ?_ ?_⟩
  · rintro i z H1 H2 Qy Qn hi sm ⟨rfl, hz⟩ h1 h2
    obtain ⟨w, hw, rfl⟩ := of_vNs hz
    have k1 : (w == x || w == y) = true → Qy (vN w) H2 := fun e => h1 _ _ (by show (l[i]?).bind _ = _; rw [hw]; exact if_pos e) (Same.refl _)
    have k2 : (w == x || w == y) = false → Qn H2 := fun e => h2 _ (by show (l[i]?).bind _ = _; rw [hw]; exact if_neg (by rw [e]; exact Bool.false_ne_true)) (Same.refl _)
    have ex : ∀ a b : Nat, (a == b) = decide (a = b) := fun a b => by rw [Bool.eq_iff_iff, beq_iff_eq, decide_eq_true_eq]
    rw [ex, ex] at k1 k2
    refine ⟨rfl, ⟨_, rfl, _, rfl, eqN ⟨_, rfl, ?_⟩⟩⟩
    cases e1 : decide (w = x) with
    | true =>
      refine iteT (iteT ⟨_, rfl, ?_⟩)
      exact k1 (by rw [e1]; rfl)
    | false =>
      refine iteF ⟨_, rfl, _, rfl, eqN ⟨_, rfl, ?_⟩⟩
      cases e2 : decide (w = y) with
      | true => exact iteT ⟨_, rfl, k1 (by rw [e2, Bool.or_true])⟩
      | false => exact iteF (k2 (by rw [e1, e2]; rfl))
  · intro H1 sm hc
    rw [vNs_len, fm_list] at hc
    exact q D H1 hD sm hc

theorem swB_iff {B : Bel} {n : Nat} {l m : List Nat} : swB B n l m = true ↔ cnts n l = cnts n m ∧ ∀ u, u < n → ∀ w ∈ belRow B n u, kp u w l = kp u w m := by
  unfold swB
  rw [Bool.and_eq_true, decide_eq_true_eq, List.all_eq_true]
  refine and_congr_right fun _ => ⟨fun h u hu w hw => ?_, fun h u hu => ?_⟩
  · have := List.all_eq_true.mp (h u (List.mem_range.mpr hu)) w hw
    exact of_decide_eq_true this
  · rw [List.all_eq_true]
    exact fun w hw => decide_eq_true (h u (List.mem_range.mp hu) w hw)
theorem neD {K : PySem.W.Frag} {H : Hp} {p q : Addr} {l m : List Nat} {Q : VK} (h1 : H p = some (.lst (vNs l))) (h2 : H q = some (.lst (vNs m))) (k : Q (.bl (!decide (l = m))) H) : rNeD K (.ref p) (.ref q) H Q :=
  ⟨_, _, dp_N h1, dp_N h2, sh_N _, sh_N _, by rw [eqv_N]; exact k⟩
theorem eqD {K : PySem.W.Frag} {H : Hp} {p q : Addr} {l m : List Nat} {Q : VK} (h1 : H p = some (.lst (vNs l))) (h2 : H q = some (.lst (vNs m))) (k : Q (.bl (decide (l = m))) H) : rEqD K (.ref p) (.ref q) H Q :=
  ⟨_, _, dp_N h1, dp_N h2, sh_N _, sh_N _, by rw [eqv_N]; exact k⟩
theorem lt_of_bad {n : Nat} {l : List Nat} (h : badV n (vNs l) = none) : ∀ x ∈ l, x < n := fun x hx => by
  have := List.find?_eq_none.mp h (vN x) (List.mem_map.mpr ⟨x, hx, rfl⟩)
  have e : isLampV n (vN x) = true := by simpa using this
  have e2 : (decide (0 ≤ (x : Int)) && decide ((x : Int) < n)) = true := e
  rw [Bool.and_eq_true, decide_eq_true_eq, decide_eq_true_eq] at e2
  omega
/-- bits(below[upper]) where the masks stand at lb -/
theorem bits_at {K : PySem.W.Frag} {σ : L2.St} {i j : Nat} {H : Hp} {lb : Addr} {v : Nat} {R : Bel} {n : Nat} {Q : VK} (e0 : σ[i]? = some (some (.ref lb))) (e2 : σ[j]? = some (some (vN v))) (hm : Masks H lb n R) (hn : n ≤ 16) (hv : v < n)
    (q : RetN H Q (.lst (vNs (belRow R n v)))) : tCl (sp_bits K) E0 (tCons (tOp (rIxL K) (tVar i) (tVar j)) tNil) σ H Q := by
  obtain ⟨ms, m, h1, h2, h3, h4⟩ := hm.get hv
  refine ⟨_, e0, _, e2, ixl h1 h3 ?_⟩
  exact ⟨m, n, rfl, hn, row_small h4, by rw [row_of h4]; exact q⟩

theorem p_is_swap {K : PySem.W.Frag} : ∀ vs H Q E, sp_is_swap K vs H Q E → vs.length = 3 ∧ t_is_swap K E { nx := fun _ H' => Q .non H', rt := Q } (start N_is_swap vs) H := by
  rintro vs H Q E ⟨a, r1, r2, xs, ys, B, n, h, rfl, hh, h1, h2, px, py, q, q1, q2⟩
  refine ⟨rfl, ?_⟩
  have n16 := hh.n16
  refine ⟨_, rfl, _, rfl, a, r1, xs, B, n, h, rfl, hh, h1, px, fun bx => ?_, q1⟩
  refine ⟨_, rfl, _, rfl, a, r2, ys, B, n, h, rfl, hh, h2, py, fun by_ => ?_, q2 bx⟩
  obtain ⟨l, m, rfl, rfl, hl, hm, q⟩ := q bx by_
  have ll := lt_of_bad bx
  have lm := lt_of_bad by_
  refine ⟨_, rfl, _, rfl, a, r1, l, B, n, h, rfl, hh, h1, ll, fun c1 H1 hc1 s1 e1 => ?_⟩
  refine ⟨_, rfl, _, rfl, a, r2, m, B, n, h, rfl, hh.mono s1, s1 _ _ h2, lm, fun c2 H2 hc2 s2 e2 => ?_⟩
  refine neD (s2 _ _ e1) e2 ?_
  have s := s1.trans s2
  refine ⟨_, rfl, ?_⟩
  by_cases hc : cnts n l = cnts n m
  · rw [decide_eq_true hc]
    refine iteF ?_
    have hh2 := hh.mono s
    refine ⟨_, rfl, a, B, n, h, rfl, hh2, fun lb hb => ?_⟩
    refine r_count rfl hh2 ?_
    refine ⟨_, rfl, by omega, by omega, for_range (lo := 0) (n := n) (fun i σ H' => Same H2 H' ∧ (∃ o o2, σ = [some (.ref a), some (.ref r1), some (.ref r2), some (.ref lb), o, o2]) ∧ ∀ u, u < i → ∀ w ∈ belRow B n u, kp u w l = kp u w m) ⟨Same.refl _, ⟨_, _, rfl⟩, fun u hu => by omega⟩ ?_ ?_⟩
    · rintro i σ H3 hi ⟨s3, ⟨o, o2, rfl⟩, hk⟩
      show tFor _ _ _ _ ([some (.ref a), some (.ref r1), some (.ref r2), some (.ref lb), some (.int (0 + (i : Int))), o2] : L2.St) H3
      rw [Int.zero_add]
      refine bits_at (i := 3) (j := 4) rfl rfl (hb.mono s3) n16.2 hi fun p H4 hp s4 hpl => ?_
      refine ⟨p, rfl, ⟨_, SqL.of hpl⟩, for_list (xs := vNs (belRow B n i)) (fun j σ H' => Same H4 H' ∧ (∃ o2, σ = [some (.ref a), some (.ref r1), some (.ref r2), some (.ref lb), some (vN i), o2]) ∧ ∀ w ∈ (belRow B n i).take j, kp i w l = kp i w m) ⟨Same.refl _, ⟨_, rfl⟩, fun w hw => by simp at hw⟩ (fun j σ H' _ e => SqL.of (e.1 _ _ hpl)) ?_ ?_⟩
      · rintro j x σ H5 hx ⟨s5, ⟨o2, rfl⟩, hk2⟩
        obtain ⟨w, hw, rfl⟩ := of_vNs hx
        have sH := s.trans (s3.trans (s4.trans s5))
        refine ⟨_, rfl, _, rfl, _, rfl, r1, i, w, l, rfl, sH _ _ h1, hl, fun p1 H6 hp1 s6 e6 => ?_⟩
        refine ⟨_, rfl, _, rfl, _, rfl, r2, i, w, m, rfl, s6 _ _ (sH _ _ h2), hm, fun p2 H7 hp2 s7 e7 => ?_⟩
        refine neD (s7 _ _ e6) e7 ⟨_, rfl, ?_⟩
        by_cases hkw : kp i w l = kp i w m
        · rw [decide_eq_true hkw]
          refine iteF ⟨s5.trans (s6.trans s7), ⟨_, rfl⟩, fun z hz => ?_⟩
          rw [take_at hw] at hz
          rcases List.mem_append.mp hz with hz | hz
          · exact hk2 z hz
          · have e : z = w := by simpa using hz
            subst e
            exact hkw
        · rw [decide_eq_false hkw]
          refine iteT ?_
          have e : swB B n l m = false := by
            cases e : swB B n l m with
            | false => rfl
            | true => exact absurd ((swB_iff.mp e).2 i hi w (mem_at hw)) hkw
          have := q H7 (sH.trans (s6.trans s7))
          rwa [e] at this
      · rintro σ H5 ⟨s5, ⟨o2, rfl⟩, hk2⟩
        refine ⟨s3.trans (s4.trans s5), ⟨_, _, rfl⟩, fun u hu w hw => ?_⟩
        rcases Nat.lt_succ_iff_lt_or_eq.mp hu with hu | rfl
        · exact hk u hu w hw
        · rw [vNs_len, List.take_length] at hk2
          exact hk2 w hw
    · rintro σ H3 ⟨s3, ⟨o, o2, rfl⟩, hk⟩
      have e : swB B n l m = true := swB_iff.mpr ⟨hc, hk⟩
      have := q H3 (s.trans s3)
      rwa [e] at this
  · rw [decide_eq_false hc]
    refine iteT ?_
    have e : swB B n l m = false := by
      unfold swB
      rw [decide_eq_false hc]
      rfl
    have := q H2 s
    rwa [e] at this

theorem fm_map {l : List Nat} {g : Nat → V} : (List.range l.length).filterMap (fun i => (l[i]?).map g) = l.map g := by
  induction l with
  | nil => rfl
  | cons a l ih =>
    rw [List.length_cons, List.range_succ_eq_map, List.filterMap_cons, List.filterMap_map]
    have e2 : ((fun i => ((a :: l)[i]?).map g) ∘ Nat.succ) = fun i => (l[i]?).map g := by
      funext i
      simp
    rw [e2, ih]
    simp
theorem p_next_sorted {K : PySem.W.Frag} : ∀ vs H Q E, sp_next_sorted K vs H Q E → vs.length = 3 ∧ t_next_sorted K { nx := fun _ H' => Q .non H', rt := Q } (start N_next_sorted vs) H := by
  rintro vs H Q E ⟨r, c, hs, C, n, e, x, rfl, hr, hlen, n16, hc, hx, q⟩
  refine ⟨rfl, ?_⟩
  obtain ⟨fx, xn, fy⟩ := find_range.mp hx
  refine ⟨_, rfl, r, vNs hs, rfl, SqL.of hr, for_it walk_enum (fun i σ H' => Same H H' ∧ i ≤ x ∧ ∃ o o1 o2, σ = [some (.ref r), some (.ref c), some (vN e), o, o1, o2]) ⟨Same.refl _, Nat.zero_le _, _, _, _, rfl⟩ (fun i σ H' _ p => SqL.of (p.1 _ _ hr)) ?_ ?_⟩
  · rintro i z σ H2 H3 hi ⟨sm2, hix, o, o1, o2, rfl⟩ ⟨T, y, z, rfl, hT, rfl, hy, hz⟩
    obtain ⟨w, hw, rfl⟩ := of_vNs hz
    cases Option.some.inj hy
    rw [vNs_len] at hi
    have hin : i < n := by omega
    have sm3 : Same H (upd H2 T (.tup [.int (i : Nat), vN w])) := sm2.trans (sm_new hT)
    refine ⟨T, _, rfl, SqT.of upd_same, rfl, _, _, rfl, _, _, rfl, rfl, ?_⟩
    have ew : hs.getD i 0 = w := by rw [List.getD_eq_getElem?_getD, hw]; rfl
    have goT : ∀ H4 : Hp, Same H H4 → (decide (hs.getD i 0 < e) && (belRow C n i).all fun y => decide (hs.getD i 0 < hs.getD y 0)) = true → Q (vN i) H4 := by
      intro H4 s4 eb
      by_cases hxi : i = x
      · subst hxi
        exact q H4 s4
      · rw [fy i (by omega)] at eb
        cases eb
    have goF : (decide (hs.getD i 0 < e) && (belRow C n i).all fun y => decide (hs.getD i 0 < hs.getD y 0)) = false → i + 1 ≤ x := by
      intro eb
      by_cases hxi : i = x
      · subst hxi
        rw [fx] at eb
        cases eb
      · omega
    refine ⟨_, rfl, _, rfl, ltN ⟨_, rfl, ?_⟩⟩
    cases e1 : decide (w < e) with
    | false =>
      refine iteF ?_
      exact ⟨sm3, goF (by rw [ew, e1]; rfl), _, _, _, rfl⟩
    | true =>
      refine iteT ?_
      refine ⟨_, rfl, _, rfl, ?_⟩
      refine ixR (hc.mono sm3) (belRows_at hin) fun rw_ hrow => ?_
      refine ⟨rw_, rfl, ⟨_, SqL.of hrow⟩, fun D hD => lc_fn (walk_list (xs := vNs (belRow C n i))) (fun j => ((belRow C n i)[j]?).map fun y => V.bl (decide (w < hs.getD y 0))) (by rw [vNs_len]; have := @belRow_len C n i; omega) hD (fun _ sm => SqL.of (sm _ _ hrow)) ?_ ?_⟩
      · rintro j v H4 H5 Qy Qn hj s4 ⟨rfl, hv⟩ h1 h2
        obtain ⟨u, hu, rfl⟩ := of_vNs hv
        have un := (mem_belRow.mp (mem_at hu)).1
        refine ⟨rfl, yesT ?_⟩
        refine ⟨_, rfl, _, rfl, ixl ((sm3.trans s4) _ _ hr) (x := hs.getD u 0) (by rw [List.getD_eq_getElem?_getD, List.getElem?_eq_getElem (by omega)]; rfl) ?_⟩
        refine ⟨_, rfl, gtN (h1 _ _ ?_ (Same.refl _))⟩
        show ((belRow C n i)[j]?).map _ = _
        rw [hu]
        rfl
      · intro H4 s4 hD4
        rw [vNs_len, fm_map] at hD4
        refine ⟨D, (belRow C n i).map fun y => decide (w < hs.getD y 0), rfl, SqL.of ?_, _, rfl, ?_⟩
        · rw [List.map_map]
          exact hD4
        · have e3 : ((belRow C n i).map fun y => decide (w < hs.getD y 0)).all id = (belRow C n i).all fun y => decide (hs.getD i 0 < hs.getD y 0) := by
            rw [List.all_map, ew]
            rfl
          rw [e3]
          have e5 : (decide (hs.getD i 0 < e) && (belRow C n i).all fun y => decide (hs.getD i 0 < hs.getD y 0)) = (belRow C n i).all fun y => decide (hs.getD i 0 < hs.getD y 0) := by rw [ew, e1, Bool.true_and]
          cases e4 : (belRow C n i).all fun y => decide (hs.getD i 0 < hs.getD y 0) with
          | true => exact iteT ⟨_, rfl, goT H4 (sm3.trans s4) (e5.trans e4)⟩
          | false => exact iteF ⟨sm3.trans s4, goF (e5.trans e4), _, _, _, rfl⟩
  · rintro σ H' ⟨_, hix, _⟩
    rw [vNs_len] at hix
    omega
end Hue
end
section
set_option maxHeartbeats 4000000
namespace Hue
open PySem PySem.Spec PyProof.Rows L2

/-- one turn of sorted_form, in numbers -/
structure SInv (B : Bel) (n : Nat) (l : List Nat) (ix : List Nat) (tk hs : List Nat) (r : List Nat) : Prop where
  pw : ix.Pairwise (· < ·)
  lt : ∀ k ∈ ix, k < l.length
  tl : tk.length = n
  hl : hs.length = n
  dr : ∀ x, x < n → (posn l l.length x ++ [l.length]).drop (tk.getD x 0) = (ix.filter fun k => l.getD k 0 == x) ++ [l.length]
  hd : ∀ x, x < n → hs.getD x 0 = hdI (fun k => l.getD k 0) l.length ix x
  sm : r ++ sfN B n ix.length (ix.map fun k => l.getD k 0) = sf B n l
  ln : r.length + ix.length = l.length
theorem SInv.start {B : Bel} {n : Nat} {l : List Nat} : SInv B n l (List.range l.length) (tab n fun _ => 0) (tab n fun x => hdI (fun k => l.getD k 0) l.length (List.range l.length) x) [] where
  pw := List.pairwise_lt_range
  lt := fun k hk => List.mem_range.mp hk
  tl := tab_len
  hl := tab_len
  dr := fun x hx => by
    rw [tab_getD hx]
    rfl
  hd := fun x hx => tab_getD hx
  sm := by
    rw [map_getD, List.length_range]
    rfl
  ln := by
    rw [List.length_range]
    exact Nat.zero_add _
theorem SInv.done {B : Bel} {n : Nat} {l ix tk hs r : List Nat} (I : SInv B n l ix tk hs r) (h : ¬ r.length < l.length) : r = sf B n l := by
  have := I.ln
  have e : ix = [] := List.length_eq_zero_iff.mp (by omega)
  have := I.sm
  rw [e] at this
  rw [← this]
  exact (List.append_nil r).symm
theorem SInv.step {B : Bel} {n : Nat} {l ix tk hs r : List Nat} (ir : ∀ w, B w w = false) (bd : ∀ v w, B v w = true → v < n ∧ w < n) (hl : ∀ x ∈ l, x < n) (I : SInv B n l ix tk hs r) (h : r.length < l.length) :
    ∃ x ix' v, nextS (cmpB B) n hs l.length = some x ∧ x < n ∧ (posn l l.length x ++ [l.length])[tk.getD x 0 + 1]? = some v ∧ SInv B n l ix' (tk.set x (tk.getD x 0 + 1)) (hs.set x v) (r ++ [x]) := by
  have hne : ix ≠ [] := fun e => by
    have := I.ln
    rw [e] at this
    simp at this
    omega
  have hmem : ∀ z ∈ ix.map (fun k => l.getD k 0), z < n := fun z hz => by
    obtain ⟨k, hk, rfl⟩ := List.mem_map.mp hz
    have := I.lt k hk
    show l.getD k 0 < n
    rw [List.getD_eq_getElem?_getD, List.getElem?_eq_getElem this]
    exact hl _ (List.getElem_mem this)
  obtain ⟨x, hx⟩ := nxt_ex (B := B) hmem (by simpa using hne)
  obtain ⟨rx, xn, _⟩ := nxt_some.mp hx
  obtain ⟨p, k, s, rfl, hk, hp⟩ := split_ix (f := fun k => l.getD k 0) (ready_mem rx)
  obtain ⟨f1, f2⟩ := fil_split (f := fun k => l.getD k 0) (s := s) hk hp
  have d := I.dr x xn
  rw [f1] at d
  have d1 : (posn l l.length x ++ [l.length]).drop (tk.getD x 0 + 1) = (s.filter fun k => l.getD k 0 == x) ++ [l.length] := by
    rw [← List.drop_drop, d]
    rfl
  have pw' : (p ++ s).Pairwise (· < ·) := I.pw.sublist (List.Sublist.append (List.Sublist.refl p) (List.sublist_cons_self k s))
  have lt' : ∀ j ∈ p ++ s, j < l.length := fun j hj => I.lt j (by
    rcases List.mem_append.mp hj with q | q
    · exact List.mem_append_left _ q
    · exact List.mem_append_right _ (List.mem_cons_of_mem _ q))
  have hv : (posn l l.length x ++ [l.length])[tk.getD x 0 + 1]? = some (hdI (fun k => l.getD k 0) l.length (p ++ s) x) := by
    have e : (posn l l.length x ++ [l.length])[tk.getD x 0 + 1]? = ((posn l l.length x ++ [l.length]).drop (tk.getD x 0 + 1))[0]? := by
      rw [List.getElem?_drop]
    rw [e, d1]
    unfold hdI
    rw [f2]
    cases s.filter fun k => l.getD k 0 == x with
    | nil => rfl
    | cons a b => rfl
  refine ⟨x, p ++ s, _, nextS_nxt ir bd I.pw I.lt I.hd hx, xn, hv, pw', lt', by rw [List.length_set]; exact I.tl, by rw [List.length_set]; exact I.hl, fun y hy => ?_, fun y hy => ?_, ?_, ?_⟩
  · by_cases e : x = y
    · subst e
      have e2 : (tk.set x (tk.getD x 0 + 1)).getD x 0 = tk.getD x 0 + 1 := by
        rw [List.getD_eq_getElem?_getD, List.getElem?_set_self (by rw [I.tl]; exact hy)]
        rfl
      rw [e2, d1, f2]
    · have e2 : (tk.set x (tk.getD x 0 + 1)).getD y 0 = tk.getD y 0 := by
        rw [List.getD_eq_getElem?_getD, List.getElem?_set_ne e, ← List.getD_eq_getElem?_getD]
      rw [e2, I.dr y hy, fil_other (f := fun k => l.getD k 0) hk e]
  · by_cases e : x = y
    · subst e
      rw [List.getD_eq_getElem?_getD, List.getElem?_set_self (by rw [I.hl]; exact hy)]
      rfl
    · rw [List.getD_eq_getElem?_getD, List.getElem?_set_ne e, ← List.getD_eq_getElem?_getD, I.hd y hy]
      unfold hdI
      rw [fil_other (f := fun k => l.getD k 0) hk e]
  · rw [← I.sm]
    have e : (p ++ k :: s).length = (p ++ s).length + 1 := by simp; omega
    have e2 : sfN B n (p ++ k :: s).length ((p ++ k :: s).map fun k => l.getD k 0) = x :: sfN B n (p ++ s).length ((p ++ s).map fun k => l.getD k 0) := by
      rw [e]
      show (match nxt B n _ with | none => [] | some x => x :: sfN B n _ (List.erase _ x)) = _
      rw [hx]
      show x :: sfN B n _ _ = _
      rw [erase_ix (f := fun k => l.getD k 0) hk hp]
    rw [e2]
    simp
  · have := I.ln
    simp at this ⊢
    omega
theorem getD_at {l : List Nat} {i : Nat} (h : i < l.length) : l[i]? = some (l.getD i 0) := by
  rw [List.getD_eq_getElem?_getD, List.getElem?_eq_getElem h]
  rfl

theorem p_sorted_form {K : PySem.W.Frag} : ∀ vs H Q E, sp_sorted_form K vs H Q E → vs.length = 2 ∧ t_sorted_form K E { nx := fun _ H' => Q .non H', rt := Q } (start N_sorted_form vs) H := by
  rintro vs H Q E ⟨a, r, xs, B, n, h, rfl, hh, hr, px, q, q1⟩
  refine ⟨rfl, ?_⟩
  have n16 := hh.n16
  refine ⟨_, rfl, _, rfl, a, r, xs, B, n, h, rfl, hh, hr, px, fun bx => ?_, q1⟩
  obtain ⟨ir, l, rfl, hl, q⟩ := q bx
  have ll := lt_of_bad bx
  refine r_lenN rfl hr ?_
  refine r_count rfl hh ?_
  refine ⟨_, rfl, by omega, by omega, fun D hD => lc_empty (walk_range (lo := 0) (n := n)) (by omega) hD (fun _ _ => trivial) (fun _ _ _ _ y => y.1) (fun x H' Q h => h _ rfl) ?_⟩
  intro as H1 asl nd fr sm1 hD1 he
  -- the rows take the places
  have hr1 : ∀ H', Same H H' → H' r = some (.lst (vNs l)) := fun H' s => s _ _ hr
  have frD : ∀ q ∈ as, H q = Option.none := fun q hq => (fr q hq).1
  refine ⟨_, rfl, r, vNs l, rfl, SqL.of (hr1 _ sm1), for_it walk_enum (fun i σ H' => (Same H H' ∧ H' D = some (.lst (as.map V.ref)) ∧ Rows H' as (tab n fun x => posn l i x)) ∧ ∃ o1 o2, σ = [some (.ref a), some (.ref r), some (vN l.length), some (.ref D), o1, o2, none, none, none, none, none, none]) ⟨⟨sm1, hD1, rows_empty asl he⟩, _, _, rfl⟩ (fun i σ H' _ e => SqL.of (hr1 _ e.1.1)) ?_ ?_⟩
  · rintro i x σ H2 H3 hi ⟨⟨sm2, d2, R2⟩, o1, o2, rfl⟩ ⟨T, y, z, rfl, hT, rfl, hy, hz⟩
    obtain ⟨w, hw, rfl⟩ := of_vNs hz
    cases Option.some.inj hy
    have wn := ll w (mem_at hw)
    have sT : Same H2 (upd H2 T (.tup [.int (i : Nat), vN w])) := sm_new hT
    refine ⟨T, _, rfl, SqT.of upd_same, rfl, _, _, rfl, _, _, rfl, rfl, ?_⟩
    obtain ⟨p, hp, hpr⟩ := (R2.mono sT).get (tab_at wn)
    refine r_app2 (i := 3) (j := 5) rfl rfl (sT _ _ d2) (by rw [List.getElem?_map, hp]; rfl) hpr ?_
    refine ⟨_, rfl, apN hpr (by have := @posn_len l i w; rw [vNs_len] at hi; omega) ?_⟩
    refine ⟨⟨sm_row (sm2.trans sT) frD hp, ?_, ?_⟩, _, _, rfl⟩
    · rw [upd_ne (Ne.symm (fr p (mem_at hp)).2)]
      exact sT _ _ d2
    · have R3 := (R2.mono sT).set nd (r := posn l i w ++ [i]) hp
      rw [tab_set] at R3
      have e : tab n (fun y => if y = w then posn l i w ++ [i] else posn l i y) = tab n fun x => posn l (i + 1) x := tab_congr fun y _ => by
        rw [posn_succ]
        have e1 : l.getD i 0 = w := by rw [List.getD_eq_getElem?_getD, hw]; rfl
        rw [e1]
        by_cases e : y = w
        · subst e
          rw [if_pos rfl, if_pos rfl]
        · rw [if_neg e, if_neg (Ne.symm e), List.append_nil]
      rw [e] at R3
      exact R3
  · rintro σ H2 ⟨⟨sm2, d2, R2⟩, o1, o2, rfl⟩
    rw [vNs_len] at R2
    refine r_count rfl (hh.mono sm2) ?_
    refine ⟨_, rfl, by omega, by omega, for_range (lo := 0) (n := n) (fun i σ H' => (Same H H' ∧ H' D = some (.lst (as.map V.ref)) ∧ Rows H' as (tab n fun x => posn l l.length x ++ if x < i then [l.length] else [])) ∧ ∃ o1 o2, σ = [some (.ref a), some (.ref r), some (vN l.length), some (.ref D), o1, o2, none, none, none, none, none, none]) ⟨⟨sm2, d2, ?_⟩, _, _, rfl⟩ ?_ ?_⟩
    · have e : tab n (fun x => posn l l.length x ++ if x < 0 then [l.length] else []) = tab n fun x => posn l l.length x := tab_congr fun y _ => by
        rw [if_neg (Nat.not_lt_zero y), List.append_nil]
      rw [e]
      exact R2
    · rintro i σ H3 hi ⟨⟨sm3, d3, R3⟩, o1, o2, rfl⟩
      show tDrop _ _ ([some (.ref a), some (.ref r), some (vN l.length), some (.ref D), o1, some (.int (0 + (i : Int))), none, none, none, none, none, none] : L2.St) H3
      rw [Int.zero_add]
      obtain ⟨p, hp, hpr⟩ := R3.get (tab_at hi)
      rw [if_neg (Nat.lt_irrefl i), List.append_nil] at hpr
      refine r_app2 (i := 3) (j := 5) rfl rfl d3 (by rw [List.getElem?_map, hp]; rfl) hpr ?_
      refine ⟨_, rfl, apN hpr (by have := @posn_len l l.length i; omega) ?_⟩
      refine ⟨⟨sm_row sm3 frD hp, ?_, ?_⟩, _, _, rfl⟩
      · rw [upd_ne (Ne.symm (fr p (mem_at hp)).2)]
        exact d3
      · have R4 := R3.set nd (r := posn l l.length i ++ [l.length]) hp
        rw [tab_set] at R4
        have e : tab n (fun y => if y = i then posn l l.length i ++ [l.length] else posn l l.length y ++ if y < i then [l.length] else []) = tab n fun x => posn l l.length x ++ if x < i + 1 then [l.length] else [] := tab_congr fun y _ => by
          by_cases e : y = i
          · subst e
            rw [if_pos rfl, if_pos (Nat.lt_succ_self y)]
          · rw [if_neg e]
            by_cases e2 : y < i
            · rw [if_pos e2, if_pos (by omega)]
            · rw [if_neg e2, if_neg (by omega)]
        rw [e] at R4
        exact R4
    · rintro σ H3 ⟨⟨sm3, d3, R3⟩, o1, o2, rfl⟩
      have eR : tab n (fun x => posn l l.length x ++ if x < n then [l.length] else []) = tab n fun x => posn l l.length x ++ [l.length] := tab_congr fun y hy => by rw [if_pos hy]
      rw [eR] at R3
      clear eR
      -- taken
      refine r_count rfl (hh.mono sm3) ?_
      refine ⟨_, rfl, by omega, by omega, fun T hT => lc_fn (walk_range (lo := 0) (n := n)) (fun _ => some (.int 0)) (by omega) hT (fun _ _ => trivial) ?_ ?_⟩
      · rintro i x H4 H5 Qy Qn hi sm4 ⟨rfl, rfl⟩ h1 h2
        exact ⟨rfl, yesT (h1 _ _ rfl (Same.refl _))⟩
      · intro H4 sm4 hT4
        have eT : (List.range n).filterMap (fun _ => some (V.int 0)) = vNs (tab n fun _ => 0) := cnst_tab (k := 0)
        rw [eT] at hT4
        -- heads
        refine ⟨_, rfl, D, rfl, ⟨_, SqL.of (sm4 _ _ d3)⟩, fun Hd hHd => lc_fn (walk_list (xs := as.map V.ref)) (fun i => some (vN (hdI (fun k => l.getD k 0) l.length (List.range l.length) i))) (by rw [List.length_map]; omega) hHd (fun _ sm => SqL.of (sm _ _ (sm4 _ _ d3))) ?_ ?_⟩
        · rintro i x H5 H6 Qy Qn hi sm5 ⟨rfl, hx⟩ h1 h2
          rw [List.length_map, asl] at hi
          obtain ⟨p, hp, hpr⟩ := (R3.mono (sm4.trans sm5)).get (tab_at hi)
          rw [List.getElem?_map, hp] at hx
          cases Option.some.inj hx
          refine ⟨rfl, yesT ?_⟩
          refine ⟨_, rfl, ?_⟩
          refine kc (ixl (i := 0) hpr (x := hdI (fun k => l.getD k 0) l.length (List.range l.length) i) ?_ (h1 _ _ rfl (Same.refl _)))
          unfold hdI posn
          cases (List.range l.length).filter fun k => l.getD k 0 == i with
          | nil => rfl
          | cons u v => rfl
        · intro H5 sm5 hHd5
          rw [List.length_map, asl, fm_tab] at hHd5
          -- comparable
          refine ⟨_, rfl, a, B, n, h, rfl, hh.mono (sm3.trans (sm4.trans sm5)), fun c cs H6 nc ncs sm6 hc1 hc2 => ?_⟩
          -- result
          refine ⟨Nat.zero_le _, fun Z hZ => ?_⟩
          have hT6 : H6 T = some (.lst (vNs (tab n fun _ => 0))) := sm6 _ _ (sm5 _ _ hT4)
          have hHd6 : H6 Hd = some (.lst (vNs (tab n fun x => hdI (fun k => l.getD k 0) l.length (List.range l.length) x))) := sm6 _ _ hHd5
          have hTH : T ≠ Hd := ne_of_none hT4 hHd
          have nT : H T = Option.none := sm3.free hT
          have nHd : H Hd = Option.none := (sm3.trans sm4).free hHd
          have nZ : H Z = Option.none := (sm3.trans (sm4.trans (sm5.trans sm6))).free hZ
          have hZT : T ≠ Z := ne_of_none hT6 hZ
          have hZH : Hd ≠ Z := ne_of_none hHd6 hZ
          have hf : Same H (rm T (rm Hd H6)) := fun b o hb => rm_of (rm_of ((sm3.trans (sm4.trans (sm5.trans sm6))) _ _ hb) (ne_of_none hb nHd)) (ne_of_none hb nT)
          have fT : rm T (rm Hd H6) T = Option.none := by unfold rm; rw [if_pos rfl]
          have fHd : rm T (rm Hd H6) Hd = Option.none := rm_none (by unfold rm; rw [if_pos rfl])
          have fZ : rm T (rm Hd H6) Z = Option.none := rm_none (rm_none hZ)
          have keep : ∀ (b : Addr) (o : HO), H3 b = some o → rm T (rm Hd H6) b = some o := fun b o hb => rm_of (rm_of (sm6 _ _ (sm5 _ _ (sm4 _ _ hb))) (ne_of_none (sm4 _ _ hb) hHd)) (ne_of_none hb hT)
          have dF := keep _ _ d3
          have RF : Rows (rm T (rm Hd H6)) as (tab n fun x => posn l l.length x ++ [l.length]) := ⟨R3.1, fun i p r h1 h2 => keep _ _ (R3.2 i p r h1 h2)⟩
          refine while_by (fun σ H' => ∃ ix tk hs rr o5 o4, (Same (rm T (rm Hd H6)) H' ∧ H' T = some (.lst (vNs tk)) ∧ H' Hd = some (.lst (vNs hs)) ∧ H' Z = some (.lst (vNs rr)) ∧ LLat (rm T (rm Hd H6)) c (belRows (cmpB B) n)) ∧ SInv B n l ix tk hs rr ∧
            σ = [some (.ref a), some (.ref r), some (vN l.length), some (.ref D), o4, o5, some (.ref T), some (.ref Hd), some (.ref c), some (.ref Z), none, none]) (fun _ H' => match H' Z with | some (.lst ys) => l.length - ys.length | _ => 0) ?_ ?_ ?_
          · exact ⟨_, _, _, [], _, _, ⟨((rm_le _ _).trans (rm_le _ _)).trans (sm_new hZ), by rw [upd_ne hZT]; exact hT6, by rw [upd_ne hZH]; exact hHd6, upd_same, cs, rm_of (rm_of hc1 (fun e => by rw [e, hHd5] at nc; cases nc)) (fun e => by rw [e, sm5 _ _ hT4] at nc; cases nc), hc2.1, fun i p r a1 a2 => rm_of (rm_of (hc2.2 i p r a1 a2) (fun e => by have := ncs p (mem_at a1); rw [e, hHd5] at this; cases this)) (fun e => by have := ncs p (mem_at a1); rw [e, sm5 _ _ hT4] at this; cases this)⟩, SInv.start, rfl⟩
          · rintro σ H' ⟨ix, tk, hs, rr, o5, o4, ⟨sm, t1, t2, t3, lc⟩, I, rfl⟩
            refine r_lenN (i := 9) rfl t3 ?_
            refine ⟨_, rfl, ltN ⟨_, rfl, ?_⟩⟩
            by_cases hlt : rr.length < l.length
            · rw [decide_eq_true hlt]
              obtain ⟨x, ix', v, e1, xn, e2, I'⟩ := I.step ir hh.bd ll hlt
              refine iteT ?_
              refine ⟨_, rfl, _, rfl, _, rfl, Hd, c, hs, cmpB B, n, l.length, x, rfl, t2, I.hl, n16.2, lc.mono sm, e1, fun H7 s7 => ?_⟩
              refine r_app1 (i := 9) rfl (s7 _ _ t3) ?_
              refine ⟨_, rfl, apN (s7 _ _ t3) (by omega) ?_⟩
              have T7 : (upd H7 Z (.lst (vNs (rr ++ [x])))) T = some (.lst (vNs tk)) := by
                rw [upd_ne hZT]
                exact s7 _ _ t1
              refine ⟨_, rfl, _, rfl, ixl T7 (getD_at (by rw [I.tl]; exact xn)) ?_⟩
              refine ⟨_, _, rfl, rfl, stl T7 (by rw [vNs_len, I.tl]; exact xn) ?_⟩
              have eT : (vNs tk).set x (V.int (((tk.getD x 0 : Nat) : Int) + 1)) = vNs (tk.set x (tk.getD x 0 + 1)) := by
                rw [← vNs_set]
                rfl
              rw [eT]
              have s8 : Same (rm T (rm Hd H6)) (upd (upd H7 Z (.lst (vNs (rr ++ [x])))) T (.lst (vNs (tk.set x (tk.getD x 0 + 1))))) := sm_mut (sm_mut (sm.trans s7) fZ) fT
              obtain ⟨p, hp, hpr⟩ := RF.get (tab_at xn)
              refine ⟨_, rfl, _, rfl, ixL (s8 _ _ dF) (by rw [List.getElem?_map, hp]; rfl) ?_⟩
              refine ⟨_, rfl, _, rfl, ixl upd_same (x := tk.getD x 0 + 1) (List.getElem?_set_self (by rw [I.tl]; exact xn)) ?_⟩
              refine ixl (s8 _ _ hpr) e2 ?_
              have H8 : (upd (upd H7 Z (.lst (vNs (rr ++ [x])))) T (.lst (vNs (tk.set x (tk.getD x 0 + 1))))) Hd = some (.lst (vNs hs)) := by
                rw [upd_ne (Ne.symm hTH), upd_ne hZH]
                exact s7 _ _ t2
              refine ⟨_, rfl, _, rfl, stl H8 (by rw [vNs_len, I.hl]; exact xn) ?_⟩
              rw [vNs_set]
              refine ⟨⟨ix', _, _, _, _, _, ⟨sm_mut s8 fHd, by rw [upd_ne hTH]; exact upd_same, upd_same, by rw [upd_ne (Ne.symm hZH), upd_ne (Ne.symm hZT)]; exact upd_same, lc⟩, I', rfl⟩, ?_⟩
              have eZ : (upd (upd (upd H7 Z (.lst (vNs (rr ++ [x])))) T (.lst (vNs (tk.set x (tk.getD x 0 + 1))))) Hd (.lst (vNs (hs.set x v)))) Z = some (.lst (vNs (rr ++ [x]))) := by
                rw [upd_ne (Ne.symm hZH), upd_ne (Ne.symm hZT), upd_same]
              show (match (upd (upd (upd H7 Z (.lst (vNs (rr ++ [x])))) T (.lst (vNs (tk.set x (tk.getD x 0 + 1))))) Hd (.lst (vNs (hs.set x v)))) Z with | some (.lst ys) => l.length - ys.length | _ => 0) < (match H' Z with | some (.lst ys) => l.length - ys.length | _ => 0)
              rw [eZ, t3]
              show l.length - (vNs (rr ++ [x])).length < l.length - (vNs rr).length
              rw [vNs_len, vNs_len, List.length_append]
              simp
              omega
            · rw [decide_eq_false hlt]
              refine iteF ⟨_, rfl, q Z H' nZ (hf.trans sm) ?_⟩
              rw [t3, I.done hlt]
          · rintro σ H' Qa Qb hab ⟨v, h1, p, ys, h2, h3, w, h4, i, j, h5, h6, k, h7, hq⟩
            exact ⟨v, h1, p, ys, h2, h3, w, h4, i, j, h5, h6, k, h7, hab _ _ hq⟩
end Hue
end
section
set_option maxHeartbeats 4000000
namespace Hue
open PySem PySem.Spec PyProof.Rows L2
theorem swap_set0 (a b : Nat) (s : List Nat) : ∀ p : List Nat, ((p ++ a :: b :: s).set p.length b).set (p.length + 1) a = p ++ b :: a :: s
  | [] => rfl
  | c :: p => by
    show c :: (((p ++ a :: b :: s).set p.length b).set (p.length + 1) a) = c :: (p ++ b :: a :: s)
    rw [swap_set0 a b s p]
theorem swap_set {l : List Nat} {k : Nat} (h : k + 1 < l.length) : (l.set k (l.getD (k + 1) 0)).set (k + 1) (l.getD k 0) = swapAt k l := by
  have e := split_at h
  have hk : (l.take k).length = k := by
    rw [List.length_take]
    omega
  generalize l.getD k 0 = a at *
  generalize l.getD (k + 1) 0 = b at *
  generalize l.drop (k + 2) = s at *
  have e2 := swap_set0 a b s (l.take k)
  have e3 := swapAt_mid (l.take k) a b s
  rw [← e, hk] at e2 e3
  rw [e2, e3]
theorem inV_N {x : Nat} {l : List Nat} : inV (vN x) (vNs l) = decide (x ∈ l) := by
  unfold inV
  induction l with
  | nil => simp
  | cons y l ih =>
    show (((y : Int) == (x : Int)) || (vNs l).any fun y => eqV y (vN x)) = _
    rw [ih]
    by_cases e : y = x
    · subst e
      simp
    · have : ((y : Int) == (x : Int)) = false := beq_eq_false_iff_ne.mpr (by omega)
      rw [this]
      simp [Ne.symm e]
theorem flat_N {l : List Nat} : (vNs l).all flatV = true := by
  rw [List.all_map, List.all_eq_true]
  exact fun x _ => rfl
theorem notin {K : PySem.W.Frag} {H : Hp} {p : Addr} {x : Nat} {l : List Nat} {Q : VK} (h : H p = some (.lst (vNs l))) (q : Q (.bl (!decide (x ∈ l))) H) : rIn K true (vN x) (.ref p) H Q :=
  ⟨p, vNs l, rfl, .inl (SqL.of h), rfl, flat_N, by rw [if_pos rfl, inV_N]; exact q⟩
theorem isin {K : PySem.W.Frag} {H : Hp} {p : Addr} {x : Nat} {l : List Nat} {Q : VK} (h : H p = some (.tup (vNs l))) (q : Q (.bl (decide (x ∈ l))) H) : rIn K false (vN x) (.ref p) H Q :=
  ⟨p, vNs l, rfl, .inr (SqT.of h), rfl, flat_N, by rw [if_neg Bool.false_ne_true, inV_N]; exact q⟩
def nbTo (B : Bel) (l : List Nat) (i : Nat) : List (List Nat) := ((List.range i).filter fun k => apart B (l.getD k 0) (l.getD (k + 1) 0)).map fun k => swapAt k l
theorem nbTo_succ {B : Bel} {l : List Nat} {i : Nat} : nbTo B l (i + 1) = nbTo B l i ++ (if apart B (l.getD i 0) (l.getD (i + 1) 0) = true then [swapAt i l] else []) := by
  unfold nbTo
  rw [List.range_succ, List.filter_append, List.map_append, List.filter_cons, List.filter_nil]
  cases apart B (l.getD i 0) (l.getD (i + 1) 0) <;> rfl
theorem nbTo_len {B : Bel} {l : List Nat} {i : Nat} : (nbTo B l i).length ≤ i := by
  unfold nbTo
  rw [List.length_map]
  have := List.length_filter_le (fun k => apart B (l.getD k 0) (l.getD (k + 1) 0)) (List.range i)
  rwa [List.length_range] at this
theorem rows_app {H H' : Hp} {as : List Addr} {rows : List (List Nat)} {p : Addr} {r : List Nat} (h : Rows H as rows) (s : Same H H') (hp : H' p = some (.lst (vNs r))) : Rows H' (as ++ [p]) (rows ++ [r]) := by
  refine ⟨by rw [List.length_append, List.length_append, h.1]; rfl, fun i q t h1 h2 => ?_⟩
  rcases Nat.lt_or_ge i as.length with hi | hi
  · rw [List.getElem?_append_left hi] at h1
    rw [List.getElem?_append_left (by rw [← h.1]; exact hi)] at h2
    exact s _ _ (h.2 i q t h1 h2)
  · rw [List.getElem?_append_right hi] at h1
    rw [List.getElem?_append_right (by rw [← h.1]; exact hi), ← h.1] at h2
    cases e : i - as.length with
    | zero =>
      rw [e] at h1 h2
      cases h1
      cases h2
      exact hp
    | succ j =>
      rw [e] at h1
      simp at h1
theorem Rows.off {H : Hp} {as : List Addr} {rows : List (List Nat)} {Z : Addr} {o : HO} (h : Rows H as rows) (hz : Z ∉ as) : Rows (upd H Z o) as rows :=
  ⟨h.1, fun i p r h1 h2 => by
    rw [upd_ne (fun (e : p = Z) => hz (e ▸ mem_at h1))]
    exact h.2 i p r h1 h2⟩
theorem Rows.mem {H : Hp} {as : List Addr} {rows : List (List Nat)} (h : Rows H as rows) {p : Addr} (hp : p ∈ as) : ∃ r ∈ rows, H p = some (.lst (vNs r)) := by
  obtain ⟨i, hi⟩ := List.mem_iff_getElem?.mp hp
  obtain ⟨r, hr⟩ := at_ex (l := rows) (i := i) (by rw [← h.1]; exact lt_at hi)
  exact ⟨r, mem_at hr, h.2 i p r hi hr⟩
theorem Rows.notin {H : Hp} {as : List Addr} {rows : List (List Nat)} (h : Rows H as rows) {L : Addr} (hL : H L = Option.none) : L ∉ as := fun q => by
  obtain ⟨r, _, e⟩ := h.mem q
  rw [e] at hL
  cases hL
theorem cmp_row {B : Bel} {n a b : Nat} (hb : b < n) : (!decide (a = b) && !decide (b ∈ belRow (cmpB B) n a)) = apart B a b := by
  have e : decide (b ∈ belRow (cmpB B) n a) = cmpB B a b := by
    rw [Bool.eq_iff_iff, decide_eq_true_eq, mem_belRow]
    exact ⟨fun h => h.2, fun h => ⟨hb, h⟩⟩
  rw [e]
  unfold apart cmpB
  have e2 : (a == b) = decide (a = b) := by rw [Bool.eq_iff_iff, beq_iff_eq, decide_eq_true_eq]
  rw [e2, Bool.not_or]
theorem mem_getD {l : List Nat} {i : Nat} (h : i < l.length) : l.getD i 0 ∈ l := by
  rw [List.getD_eq_getElem?_getD, List.getElem?_eq_getElem h]
  exact List.getElem_mem h

theorem p_neighbours {K : PySem.W.Frag} : ∀ vs H Q E, sp_neighbours K vs H Q E → vs.length = 2 ∧ t_neighbours K E { nx := fun _ H' => Q .non H', rt := Q } (start N_neighbours vs) H := by
  rintro vs H Q E ⟨a, r, xs, B, n, h, rfl, hh, hr, px, q, q1⟩
  refine ⟨rfl, ?_⟩
  have n16 := hh.n16
  refine ⟨_, rfl, _, rfl, a, r, xs, B, n, h, rfl, hh, hr, px, fun bx => ?_, q1⟩
  obtain ⟨l, rfl, hl, q⟩ := q bx
  have ll := lt_of_bad bx
  refine ⟨_, rfl, a, B, n, h, rfl, hh, fun c cs H1 nc ncs s1 hc1 hc2 => ?_⟩
  refine ⟨Nat.zero_le _, fun Z hZ => ?_⟩
  have hc : LLat H1 c (belRows (cmpB B) n) := ⟨cs, hc1, hc2⟩
  have sZ : Same H1 (upd H1 Z (.lst [])) := sm_new hZ
  have nZ := s1.free hZ
  refine r_lenN (i := 1) rfl ((s1.trans sZ) _ _ hr) ?_
  refine ⟨_, _, rfl, rfl, _, rfl, by omega, by omega, for_range (lo := 0) (n := ((l.length : Int) - 1).toNat) (fun i σ H' => ∃ as o4 o5 o6 o7, (Same H1 H' ∧ H' Z = some (.lst (as.map V.ref)) ∧ Rows H' as (nbTo B l i)) ∧ ((Z :: as).Nodup ∧ ∀ p ∈ as, H p = Option.none) ∧ σ = [some (.ref a), some (.ref r), some (.ref c), some (.ref Z), o4, o5, o6, o7]) ⟨[], _, _, _, _, ⟨sZ, upd_same, rfl, fun i p r h1 h2 => by simp at h1⟩, ⟨by simp, fun p hp => by simp at hp⟩, rfl⟩ ?_ ?_⟩
  · rintro i σ H2 hi ⟨as, o4, o5, o6, o7, ⟨s2, z2, R2⟩, ⟨nd, fr⟩, rfl⟩
    show tSeq _ _ _ ([some (.ref a), some (.ref r), some (.ref c), some (.ref Z), some (.int (0 + (i : Int))), o5, o6, o7] : L2.St) H2
    rw [Int.zero_add]
    have hi1 : i + 1 < l.length := by omega
    have sH := s1.trans s2
    refine ⟨_, rfl, _, rfl, ixl (sH _ _ hr) (getD_at (by omega)) ?_⟩
    refine ⟨_, rfl, _, rfl, kc (adN (y := 1) ?_)⟩
    refine ixl (sH _ _ hr) (getD_at hi1) ?_
    refine ⟨_, rfl, _, rfl, neN ⟨_, rfl, ?_⟩⟩
    have an := ll _ (mem_getD (show i < l.length by omega))
    have bn := ll _ (mem_getD hi1)
    have ec := cmp_row (B := B) (n := n) (a := l.getD i 0) (b := l.getD (i + 1) 0) bn
    have stop : apart B (l.getD i 0) (l.getD (i + 1) 0) = false → ∀ o5 o6 : Option V, ∃ as' o4 o5' o6' o7', (Same H1 H2 ∧ H2 Z = some (.lst (as'.map V.ref)) ∧ Rows H2 as' (nbTo B l (i + 1))) ∧ ((Z :: as').Nodup ∧ ∀ p ∈ as', H p = Option.none) ∧ ([some (.ref a), some (.ref r), some (.ref c), some (.ref Z), some (vN i), o5, o6, o7] : L2.St) = [some (.ref a), some (.ref r), some (.ref c), some (.ref Z), o4, o5', o6', o7'] := fun e o5 o6 =>
      ⟨as, _, _, _, _, ⟨s2, z2, by rw [nbTo_succ, e, if_neg Bool.false_ne_true, List.append_nil]; exact R2⟩, ⟨nd, fr⟩, rfl⟩
    cases e1 : decide (l.getD i 0 = l.getD (i + 1) 0) with
    | true =>
      rw [e1] at ec
      exact iteF (stop (by rw [← ec]; rfl) _ _)
    | false =>
      rw [e1] at ec
      refine iteT ?_
      refine ⟨_, rfl, _, rfl, _, rfl, ixR (hc.mono s2) (belRows_at an) fun w hw => ?_⟩
      refine notin hw ⟨_, rfl, ?_⟩
      cases e2 : decide (l.getD (i + 1) 0 ∈ belRow (cmpB B) n (l.getD i 0)) with
      | true =>
        rw [e2] at ec
        exact iteF (stop (by rw [← ec]; rfl) _ _)
      | false =>
        rw [e2] at ec
        refine iteT ?_
        refine r_listL (i := 1) rfl (sH _ _ hr) fun L hL => ?_
        have hLZ : Z ≠ L := ne_of_none z2 hL
        refine ⟨_, rfl, _, rfl, _, rfl, stl upd_same (by rw [vNs_len]; omega) ?_⟩
        rw [vNs_set]
        refine ⟨_, rfl, _, rfl, _, rfl, kc (adN (y := 1) ?_)⟩
        refine stl upd_same (by rw [vNs_len, List.length_set]; exact hi1) ?_
        rw [vNs_set, swap_set hi1]
        have s3 : Same H2 (upd (upd (upd H2 L (.lst (vNs l))) L (.lst (vNs (l.set i (l.getD (i + 1) 0))))) L (.lst (vNs (swapAt i l)))) := sm_mut (sm_mut (sm_new hL) hL) hL
        refine r_app1 (i := 3) rfl (s3 _ _ z2) ?_
        refine ⟨_, rfl, apL (s3 _ _ z2) (by rw [List.length_map, R2.1]; have := @nbTo_len B l i; omega) ?_⟩
        refine ⟨as ++ [L], _, _, _, _, ⟨?_, ?_, ?_⟩, ⟨?_, ?_⟩, rfl⟩
        · exact sm_mut (s2.trans s3) hZ
        · rw [upd_same]
          simp
        · rw [nbTo_succ, ← ec]
          refine Rows.off (rows_app R2 s3 upd_same) fun q => ?_
          rcases List.mem_append.mp q with q | q
          · exact (List.nodup_cons.mp nd).1 q
          · exact hLZ (by simpa using q)
        · refine List.nodup_cons.mpr ⟨fun q => ?_, List.nodup_append.mpr ⟨(List.nodup_cons.mp nd).2, by simp, fun x h1 y h2 e => ?_⟩⟩
          · rcases List.mem_append.mp q with q | q
            · exact (List.nodup_cons.mp nd).1 q
            · exact hLZ (by simpa using q)
          · have e2 : y = L := by simpa using h2
            subst e2 e
            exact R2.notin hL h1
        · intro p hp
          rcases List.mem_append.mp hp with hp | hp
          · exact fr p hp
          · have e : p = L := by simpa using hp
            subst e
            exact sH.free hL
  · rintro σ H2 ⟨as, o4, o5, o6, o7, ⟨s2, z2, R2⟩, ⟨nd, fr⟩, rfl⟩
    have e : nbTo B l ((l.length : Int) - 1).toNat = nbrs B l := by
      have e : ((l.length : Int) - 1).toNat = l.length - 1 := by omega
      rw [e]
      rfl
    rw [e] at R2
    exact ⟨_, rfl, q Z as H2 nZ fr nd (s1.trans s2) z2 R2⟩
end Hue
end
section
set_option maxHeartbeats 4000000
namespace Hue
open PySem PySem.Spec PyProof.Rows L2
theorem Bx.put {b : Addr} {H H1 : Hp} {p r s c : Int} {cells : List Int} (x : Bx b H H1) (hp : 0 ≤ p) (hr : 0 ≤ r) : Bx b H (upd H1 b (.lst ((p :: r :: s :: c :: cells).map V.int))) := ⟨x.1.trans rm_upd, p, r, s, c, cells, upd_same, hp, hr⟩
theorem Bx.mut {b L : Addr} {H H1 : Hp} {o : HO} (hb : BoxAt H b) (x : Bx b H H1) (hL : H L = Option.none) : Bx b H (upd H1 L o) := by
  have n : L ≠ b := hb.ne hL
  refine ⟨fun a u h => ?_, x.2.elim fun p ⟨r, s, c, cs, h, q⟩ => ⟨p, r, s, c, cs, by rw [upd_ne (Ne.symm n)]; exact h, q⟩⟩
  have h1 := x.1 a u h
  have na : a ≠ L := fun e => by
    rw [e, rm_none hL] at h
    cases h
  exact rm_of (by rw [upd_ne na]; exact rm_le _ _ _ _ h1) (rm_ne h)
theorem Bx.new {b L : Addr} {H H1 : Hp} {o : HO} (x : Bx b H H1) (hL : H1 L = Option.none) : Bx b H (upd H1 L o) := x.grow (sm_new hL)
/-- what stood beside the box stands -/
theorem Bx.at {b a : Addr} {H H1 : Hp} {o : HO} (x : Bx b H H1) (h : rm b H a = some o) : H1 a = some o := rm_le _ _ _ _ (x.1 _ _ h)
theorem Bx.rat {b a : Addr} {H H1 : Hp} {o : HO} (x : Bx b H H1) (h : rm b H a = some o) : rm b H1 a = some o := x.1 _ _ h
theorem rm_new {b L : Addr} {H : Hp} {o : HO} (n : L ≠ b) : rm b (upd H L o) L = some o := rm_of upd_same n
/-- a list whose items are told by the turn, while the box turns -/
theorem lc_box {J : It} {n : Nat} {G : Hp → Prop} {Y : Nat → Hp → V → Hp → Prop} {g : TG} {te : TE} {vs : List Nat} {σ : L2.St} {H1 : Hp} {D b : Addr} {Qd : Hp → Prop} (w : Walk J n G Y) (P : Nat → V → Prop) (hn : n ≤ 10000) (hb : BoxAt H1 b) (hD : H1 D = Option.none) (hG : ∀ H, Bx b H1 H → G H)
    (hs : ∀ i x H H' (Qy : VK), i < n → Bx b H1 H → Y i H x H' → (∀ y H4, P i y → Bx b H H4 → Qy y H4) → g x (wipe σ vs) H' fun σ2 H2 => wipe σ2 vs = wipe σ vs ∧ te σ2 H2 Qy)
    (hd : ∀ ys H, ys.length = n → (∀ i y, ys[i]? = some y → P i y) → Bx b H1 H → rm b H D = some (.lst ys) → Qd H)
    (hg : ∀ x σ' H' (Q Q' : L2.St → Hp → Prop), (∀ σ2 H2, Q σ2 H2 → Q' σ2 H2) → g x σ' H' Q → g x σ' H' Q') :
    ∃ W : Nat → Nat → Hp → Prop, (∃ m, W 0 m (upd H1 D (.lst []))) ∧ ∀ i m H, W i m H →
      (J.stop i H ∧ Qd H) ∨ (J.go i H ∧ ∃ Nx : Hp → Prop, (∀ H', Nx H' → ∃ m', m' < m ∧ W (i + 1) m' H') ∧ ∀ x H', J.yld i H x H' → g x (wipe σ vs) H' fun σ2 H2 => wipe σ2 vs = wipe σ vs ∧ tYes σ2 H2 fun b H3 =>
        if b = true then te σ2 H3 fun y H4 => ∃ acc, H4 D = some (.lst acc) ∧ acc.length < sizeLine ∧ Nx (upd H4 D (.lst (acc ++ [y]))) else Nx H3) := by
  have nD : D ≠ b := hb.ne hD
  refine lc_it w (fun i H => Bx b H1 H ∧ ∃ ys, ys.length = i ∧ (∀ k y, ys[k]? = some y → P k y) ∧ rm b H D = some (.lst ys)) ⟨(Bx.refl hb).new hD, [], rfl, fun k y h => by simp at h, rm_new nD⟩ (fun i H _ p => hG H p.1) ?_ (fun H ⟨sm, ys, e, hy, hl⟩ => hd ys H e hy sm hl)
  rintro i x H H' hi ⟨sm, ys, e, hy, hl⟩ y
  refine hg _ _ _ _ _ ?_ (hs i x H H' (fun y H4 => ∃ acc, H4 D = some (.lst acc) ∧ acc.length < sizeLine ∧ (Bx b H1 (upd H4 D (.lst (acc ++ [y]))) ∧ ∃ ys, ys.length = i + 1 ∧ (∀ k y', ys[k]? = some y' → P k y') ∧ rm b (upd H4 D (.lst (acc ++ [y]))) D = some (.lst ys))) hi sm y ?_)
  · rintro σ2 H2 ⟨h1, h2⟩
    exact ⟨h1, h2⟩
  · intro z H4 pz s4
    refine ⟨ys, s4.at hl, n_lt (by omega), Bx.mut hb (sm.trans s4) hD, ys ++ [z], by simp [e], fun k y' hk => ?_, rm_new nD⟩
    rcases Nat.lt_or_ge k ys.length with hlt | hge
    · rw [List.getElem?_append_left hlt] at hk
      exact hy k y' hk
    · rw [List.getElem?_append_right hge] at hk
      have e0 : k - ys.length = 0 := by
        cases e1 : k - ys.length with
        | zero => rfl
        | succ j =>
          rw [e1] at hk
          simp at hk
      rw [e0] at hk
      have e2 : z = y' := by simpa using hk
      have e3 : k = i := by omega
      subst e2 e3
      exact pz

theorem fm_gen {α : Type} {l : List α} {g : α → V} : (List.range l.length).filterMap (fun i => (l[i]?).map g) = l.map g := by
  induction l with
  | nil => rfl
  | cons a l ih =>
    rw [List.length_cons, List.range_succ_eq_map, List.filterMap_cons, List.filterMap_map]
    have e2 : ((fun i => ((a :: l)[i]?).map g) ∘ Nat.succ) = fun i => (l[i]?).map g := by
      funext i
      simp
    rw [e2, ih]
    simp
theorem p__law_box {K : PySem.W.Frag} : ∀ vs H Q E, sp__law_box K vs H Q E → vs.length = 1 ∧ t__law_box K { nx := fun _ H' => Q .non H', rt := Q } (start N__law_box vs) H := by
  rintro vs H Q E ⟨a, ns, rfl, sq, hn, q⟩
  refine ⟨rfl, ?_⟩
  refine ⟨(by decide), fun p hp => ?_⟩
  have s1 : Same H (upd H p (.lst [.int 4, .int 0, .int 4896, .int 0])) := sm_new hp
  refine ⟨_, rfl, _, rfl, a, _, rfl, s1.seq sq, fun c hc => ?_⟩
  obtain ⟨ms, em, hm⟩ : ∃ ms : List Int, cutV (ns.map V.int) Option.none (some 63) = ms.map V.int ∧ ms.length ≤ 63 := by
    unfold cutV
    refine ⟨_, by rw [← List.map_drop, ← List.map_take], ?_⟩
    rw [List.length_take, List.length_drop]
    omega
  rw [em]
  have s2 : Same (upd H p (.lst [.int 4, .int 0, .int 4896, .int 0])) (upd (upd H p (.lst [.int 4, .int 0, .int 4896, .int 0])) c (.lst (ms.map V.int))) := sm_new hc
  refine ⟨c, rfl, ⟨_, SqL.of upd_same⟩, fun D hD => lc_fn (walk_list (xs := ms.map V.int)) (fun i => (ms[i]?).map V.int) (by rw [List.length_map]; omega) hD (fun _ sm => SqL.of (sm _ _ upd_same)) ?_ ?_⟩
  · rintro i x H1 H2 Qy Qn hi sm ⟨rfl, hx⟩ h1 h2
    refine ⟨rfl, yesT ?_⟩
    rw [List.getElem?_map] at hx
    cases e : ms[i]? with
    | none =>
      rw [e] at hx
      cases hx
    | some z =>
      rw [e] at hx
      cases Option.some.inj hx
      refine ⟨_, rfl, .inl ⟨z, rfl, h1 _ _ ?_ (Same.refl _)⟩⟩
      show (ms[i]?).map V.int = _
      rw [e]
      rfl
  · intro H1 sm hD1
    rw [List.length_map, fm_gen] at hD1
    have hp1 : H1 p = some (.lst [.int 4, .int 0, .int 4896, .int 0]) := sm _ _ (s2 _ _ upd_same)
    refine ⟨p, D, _, _, rfl, rfl, hp1, hD1, ?_, fun z hz => ?_⟩
    · rw [List.length_map]
      exact n_line (by simp; omega)
    · exact q z _ ((s1.trans (s2.trans sm)).free hz) ((s1.trans (s2.trans sm)).trans (sm_new hz)) ⟨4, 0, 4896, 0, ms, upd_same, by decide, by decide⟩

theorem mod_ok {m : Int} (x : Int) (h : 0 < m) : 0 ≤ x % m ∧ x % m < m := ⟨Int.emod_nonneg _ (by omega), Int.emod_lt_of_pos _ h⟩
theorem mul_r {i j : Int} (h : -(2 ^ 64) < j ∧ j < 2 ^ 64) : CMul i j := .inr h
theorem mul_l {i j : Int} (h : -(2 ^ 64) < i ∧ i < 2 ^ 64) : CMul i j := .inl h
theorem p__law_mixed {K : PySem.W.Frag} : ∀ vs H Q E, sp__law_mixed K vs H Q E → vs.length = 2 ∧ t__law_mixed K { nx := fun _ H' => Q .non H', rt := Q } (start N__law_mixed vs) H := by
  rintro vs H Q E ⟨s, t, rfl, q⟩
  refine ⟨rfl, ?_⟩
  refine ⟨_, rfl, _, _, rfl, rfl, mul_r (by decide), _, rfl, _, _, rfl, rfl, mul_r (by decide), _, _, rfl, rfl, _, _, rfl, rfl, .inl ⟨_, rfl, _, _, rfl, rfl, (by show (0 : Int) < _; decide), ?_⟩⟩
  have b1 := mod_ok (m := 2147483647) (s * 48271 + t * 69621 + 7919) (by decide)
  generalize (s * 48271 + t * 69621 + 7919) % 2147483647 = f at b1 ⊢
  refine ⟨_, rfl, _, rfl, _, _, rfl, rfl, mul_r (by omega), _, rfl, _, _, rfl, rfl, mul_r (by decide), _, _, rfl, rfl, _, rfl, _, _, rfl, rfl, ⟨by decide, by decide⟩, _, _, rfl, rfl, .inl ⟨_, rfl, _, _, rfl, rfl, (by show (0 : Int) < _; decide), ?_⟩⟩
  have b2 := mod_ok (m := 2147483587) (f * f + t * 16807 + f / 64) (by decide)
  generalize (f * f + t * 16807 + f / 64) % 2147483587 = g at b2 ⊢
  refine ⟨_, rfl, _, _, rfl, rfl, mul_r (by decide), _, rfl, _, _, rfl, rfl, ⟨by decide, by decide⟩, _, rfl, _, _, rfl, rfl, _, _, rfl, rfl, mul_l (by omega), _, _, rfl, rfl, .inl ⟨_, rfl, _, _, rfl, rfl, (by show (0 : Int) < _; decide), ?_⟩⟩
  exact ⟨_, rfl, _, _, rfl, rfl, ⟨by decide, by decide⟩, q _⟩

theorem take2 {K : PySem.W.Frag} {b : Addr} {H H1 : Hp} {m : Int} {o2 o3 : Option V} {Q : VK} (hx : Bx b H H1) (m0 : 0 < m) (m1 : m < 1000000000) (q : ∀ (d : Nat) (H' : Hp), (d : Int) < m → Bx b H H' → Q (vN d) H') :
    (tSeq (tIfS (tTest (tOp oGt (tOp (rIxL K) (tVar 0) (tC (.int 1))) (tC (.int 0)))) (tSeq (tAsg (tOp oMod (tCB rInt1 (tCons (tOp (rIxL K) (tVar 0) (tC (.int 1))) tNil)) (tVar 1)) (gName 3))
  (tSeq (tAsg (tOp oDiv (tOp (rIxL K) (tVar 0) (tC (.int 1))) (tVar 1)) (gSub (tVar 0) (tC (.int 1)) rSetL))
  (tRet (tVar 3)))) tNext)
  (tSeq (tAsg (tOp oAdd (tOp (rIxL K) (tVar 0) (tC (.int 3))) (tC (.int 1))) (gSub (tVar 0) (tC (.int 3)) rSetL))
  (tRet (tOp oMod (tCB rInt1 (tCons (tCl (sp__law_mixed K) E0 (tCons (tOp (rIxL K) (tVar 0) (tC (.int 2))) (tCons (tOp (rIxL K) (tVar 0) (tC (.int 3))) tNil))) tNil)) (tVar 1))))) { nx := fun _ H' => Q .non H', rt := Q } [some (.ref b), some (.int m), o2, o3] H1 := by
  obtain ⟨p, r, s, c, cells, hb, hp, hr⟩ := hx.2
  have fin : ∀ (z : Int) (H' : Hp), 0 ≤ z → z < m → Bx b H H' → Q (.int z) H' := fun z H' h0 h1 hB => by
    have := q z.toNat H' (by omega) hB
    have e : vN z.toNat = .int z := by
      show V.int ((z.toNat : Nat) : Int) = _
      rw [Int.toNat_of_nonneg h0]
    rwa [e] at this
  refine ⟨_, rfl, kc (ixL (i := 1) hb rfl ?_)⟩
  refine kc (gtI rfl ⟨_, rfl, ?_⟩)
  by_cases h0 : 0 < r
  · rw [decide_eq_true h0]
    refine iteT ⟨_, rfl, kc (ixL (i := 1) hb rfl ?_)⟩
    refine .inl ⟨_, rfl, _, rfl, _, _, rfl, rfl, m0, ?_⟩
    refine ⟨_, rfl, kc (ixL (i := 1) hb rfl ?_)⟩
    refine ⟨_, rfl, _, _, rfl, rfl, ⟨m0, by omega⟩, ?_⟩
    refine ⟨_, rfl, kc (stl (i := 1) hb (by simp) ?_)⟩
    refine ⟨_, rfl, fin _ _ (mod_ok r m0).1 (mod_ok r m0).2 ?_⟩
    exact hx.put (p := p) (r := r / m) (s := s) (c := c) (cells := cells) hp (Int.ediv_nonneg hr (by omega))
  · rw [decide_eq_false h0]
    refine iteF ⟨_, rfl, kc (ixL (i := 3) hb rfl ?_)⟩
    refine ⟨_, _, rfl, rfl, _, rfl, kc (stl (i := 3) hb (by simp) ?_)⟩
    refine ⟨_, rfl, kc (ixL (i := 2) upd_same rfl ?_)⟩
    refine ⟨_, rfl, kc (ixL (i := 3) upd_same rfl ?_)⟩
    refine ⟨_, _, rfl, fun z => ?_⟩
    refine .inl ⟨_, rfl, _, rfl, _, _, rfl, rfl, m0, fin _ _ (mod_ok z m0).1 (mod_ok z m0).2 ?_⟩
    exact hx.put (p := p) (r := r) (s := s) (c := c + 1) (cells := cells) hp hr

theorem p__law_take {K : PySem.W.Frag} : ∀ vs H Q E, sp__law_take K vs H Q E → vs.length = 2 ∧ t__law_take K { nx := fun _ H' => Q .non H', rt := Q } (start N__law_take vs) H := by
  rintro vs H Q E ⟨b, m, rfl, hbx, m0, m1, q⟩
  refine ⟨rfl, ?_⟩
  have hx := Bx.refl hbx
  obtain ⟨p, r, s, c, cells, hb, hp, hr⟩ := hbx
  refine ⟨_, rfl, kc (ixL (i := 1) hb rfl ?_)⟩
  refine kc (eqI ⟨_, rfl, ?_⟩)
  by_cases h0 : r = 0
  · rw [decide_eq_true h0]
    refine iteT ⟨_, rfl, kc (ixL (i := 0) hb rfl ?_)⟩
    refine r_lenL rfl hb ?_
    refine ltI rfl ⟨_, rfl, ?_⟩
    by_cases hlt : p < (((p :: r :: s :: c :: cells).map V.int).length : Nat)
    · rw [decide_eq_true hlt]
      refine iteT ⟨_, rfl, _, rfl, kc (ixL (i := 0) hb rfl ?_)⟩
      have hpl : p.toNat < (p :: r :: s :: c :: cells).length := by
        rw [List.length_map] at hlt
        omega
      obtain ⟨y, hy⟩ := at_ex hpl
      have e : V.int p = vN p.toNat := by
        show _ = V.int ((p.toNat : Nat) : Int)
        rw [Int.toNat_of_nonneg hp]
      have hy2 : ((p :: r :: s :: c :: cells).map V.int)[p.toNat]? = some (.int y) := by rw [List.getElem?_map, hy]; rfl
      rw [e]
      refine ixL hb hy2 ?_
      refine ⟨_, rfl, kc (ixL (i := 0) hb rfl ?_)⟩
      refine ⟨_, _, rfl, rfl, _, rfl, kc (stl (i := 0) hb (by simp) ?_)⟩
      have hx2 : Bx b H (upd H b (.lst (((p + 1) :: r :: s :: c :: cells).map V.int))) := hx.put (p := p + 1) (r := r) (s := s) (c := c) (cells := cells) (by omega) hr
      have hb2 : (upd H b (.lst (((p + 1) :: r :: s :: c :: cells).map V.int))) b = some (.lst (((p + 1) :: r :: s :: c :: cells).map V.int)) := upd_same
      refine ⟨_, rfl, ⟨_, _, rfl, rfl, ⟨by decide, by decide, by decide⟩, ?_⟩⟩
      refine geI rfl ⟨_, rfl, ?_⟩
      by_cases hc : (10 : Int) ^ (18 : Int).toNat ≤ y
      · rw [decide_eq_true hc]
        refine iteT ⟨_, rfl, _, rfl, kc (stl (i := 1) hb2 (by simp) ?_)⟩
        refine take2 (hx2.put (p := p + 1) (r := y) (s := s) (c := c) (cells := cells) (by omega) ?_) m0 m1 q
        have : (0 : Int) ≤ 10 ^ (18 : Int).toNat := by decide
        omega
      · rw [decide_eq_false hc]
        refine iteF ⟨_, rfl, kc (ixL (i := 2) hb2 rfl ?_)⟩
        refine ⟨_, _, rfl, rfl, mul_r (by decide), _, rfl, _, _, rfl, rfl, mul_r (by decide), _, _, rfl, rfl, _, _, rfl, rfl, .inl ⟨_, rfl, _, _, rfl, rfl, (by show (0 : Int) < _; decide), ?_⟩⟩
        refine ⟨_, rfl, kc (stl (i := 2) hb2 (by simp) ?_)⟩
        exact take2 (hx2.put (p := p + 1) (r := r) (c := c) (cells := cells) (by omega) hr) m0 m1 q
    · rw [decide_eq_false hlt]
      exact iteF (take2 hx m0 m1 q)
  · rw [decide_eq_false h0]
    exact iteF (take2 hx m0 m1 q)

theorem p__law_line {K : PySem.W.Frag} : ∀ vs H Q E, sp__law_line K vs H Q E → vs.length = 2 ∧ t__law_line K { nx := fun _ H' => Q .non H', rt := Q } (start N__law_line vs) H := by
  rintro vs H Q E ⟨b, n, rfl, hb, hn, q⟩
  refine ⟨rfl, ?_⟩
  refine ⟨Nat.zero_le _, fun L hL => ?_⟩
  have nL := hb.ne hL
  refine ⟨_, rfl, _, rfl, by omega, by omega, for_range (lo := 0) (n := n) (fun i σ H' => ∃ l o, Bx b H H' ∧ rm b H' L = some (.lst (vNs l)) ∧ l.Perm (List.range i) ∧ σ = [some (.ref b), some (vN n), some (.ref L), o]) ⟨[], _, (Bx.refl hb).new hL, rm_new nL, .refl _, rfl⟩ ?_ ?_⟩
  · rintro i σ H1 hi ⟨l, o, hx, hl, pm, rfl⟩
    show tDrop _ _ ([some (.ref b), some (vN n), some (.ref L), some (.int (0 + (i : Int)))] : L2.St) H1
    rw [Int.zero_add]
    refine r_ins1 (i := 2) rfl (rm_le _ _ _ _ hl) ?_
    refine ⟨_, rfl, _, rfl, kc (adN (y := 1) ?_)⟩
    refine ⟨b, _, rfl, hx.2, by omega, by omega, fun d H2 hd h2 => ?_⟩
    refine ⟨_, rfl, L, vNs l, _, _, rfl, rfl, h2.at hl, n_lt ?_, by omega, by omega, ?_⟩
    · rw [vNs_len, pm.length_eq, List.length_range]
      omega
    · refine ⟨l.take d ++ [i] ++ l.drop d, _, Bx.mut hb (hx.trans h2) hL, ?_, ?_, rfl⟩
      · rw [rm_new nL]
        refine congrArg (fun z => some (HO.lst z)) ?_
        rw [Int.toNat_natCast]
        unfold vNs
        rw [List.map_append, List.map_append, List.map_take, List.map_drop]
        rfl
      · rw [List.range_succ]
        have e : (l.take d ++ [i] ++ l.drop d).Perm (l.take d ++ l.drop d ++ [i]) := by
          rw [List.append_assoc, List.append_assoc]
          exact List.Perm.append_left _ List.perm_append_comm
        rw [List.take_append_drop] at e
        exact e.trans (pm.append_right _)
  · rintro σ H1 ⟨l, o, hx, hl, pm, rfl⟩
    exact ⟨_, rfl, q L l H1 pm hx hL hl⟩

theorem st_ex {ys : List V} {n : Nat} {h : Int} (h2 : 2 ≤ h) (hl : ys.length = n) (hy : ∀ (i : Nat) y, ys[i]? = some y → ∃ z : Int, y = .int z ∧ 0 ≤ z ∧ z < h) : ∃ s : Nat → Int, ys = stV n s ∧ (∀ i, 0 ≤ s i) ∧ ∀ i, s i < h := by
  have hc : ∀ i : Nat, ∃ z : Int, 0 ≤ z ∧ z < h ∧ (∀ y : V, ys[i]? = some y → y = V.int z) := fun i => by
    cases e : ys[i]? with
    | none => exact ⟨0, by omega, by omega, fun y q => by cases q⟩
    | some y =>
      obtain ⟨z, h1, h3, h4⟩ := hy i y e
      exact ⟨z, h3, h4, fun y' q => by
        cases q
        exact h1⟩
  refine ⟨fun i => Classical.choose (hc i), ?_, fun i => (Classical.choose_spec (hc i)).1, fun i => (Classical.choose_spec (hc i)).2.1⟩
  apply List.ext_getElem?
  intro i
  by_cases hi : i < n
  · rw [stV_at hi]
    exact (List.getElem?_eq_getElem (by omega)).trans (congrArg some ((Classical.choose_spec (hc i)).2.2 _ (List.getElem?_eq_getElem (by omega))))
  · rw [List.getElem?_eq_none (by omega), List.getElem?_eq_none (by rw [stV_len]; omega)]

theorem p__law_state {K : PySem.W.Frag} : ∀ vs H Q E, sp__law_state K vs H Q E → vs.length = 3 ∧ t__law_state K { nx := fun _ H' => Q .non H', rt := Q } (start N__law_state vs) H := by
  rintro vs H Q E ⟨b, n, h, rfl, hb, hn, h2, h10, q⟩
  refine ⟨rfl, ?_⟩
  have fin : ∀ (ys : List V) (H1 : Hp) (D : Addr), ys.length = n → (∀ (i : Nat) y, ys[i]? = some y → ∃ z : Int, y = .int z ∧ 0 ≤ z ∧ z < h) → Bx b H H1 → rm b H1 D = some (.lst ys) → rTupOf K [.ref D] H1 Q := by
    intro ys H1 D e1 e2 hx hD
    obtain ⟨s, rfl, s0, s1⟩ := st_ex h2 e1 e2
    exact ⟨D, _, rfl, .inl ⟨SqL.of (rm_le _ _ _ _ hD), fun l hl => q l s _ (hx.new hl) ⟨rm_new (hx.2.ne hl), s0, s1⟩⟩⟩
  refine ⟨_, rfl, b, 4, rfl, hb, by decide, by decide, fun d H1 hd hx1 => ?_⟩
  refine kc (eqN (y := 0) ⟨_, rfl, ?_⟩)
  cases e : decide (d = 0) with
  | true =>
    refine iteT ⟨_, rfl, _, rfl, by omega, by omega, fun D hD => lc_box (b := b) (walk_range (lo := 0) (n := n)) (fun i y => ∃ z : Int, y = .int z ∧ 0 ≤ z ∧ z < h) (by omega) hx1.2 hD (fun _ _ => trivial) ?_ ?_ gn_mono⟩
    · rintro i x H2 H3 Qy hi hx ⟨rfl, rfl⟩ h1
      refine ⟨rfl, ?_⟩
      refine ⟨_, rfl, _, _, rfl, rfl, _, rfl, b, 2, rfl, hx.2, by decide, by decide, fun d H4 hd hx4 => ?_⟩
      refine ⟨_, _, rfl, rfl, mul_l (by omega), h1 _ _ ⟨_, rfl, ?_, ?_⟩ hx4⟩
      · have : d = 0 ∨ d = 1 := by omega
        rcases this with rfl | rfl <;> simp <;> omega
      · have : d = 0 ∨ d = 1 := by omega
        rcases this with rfl | rfl <;> simp <;> omega
    · intro ys H2 e1 e2 hx hD2
      exact fin ys H2 D e1 e2 (hx1.trans hx) hD2
  | false =>
    refine iteF ⟨_, rfl, _, rfl, by omega, by omega, fun D hD => lc_box (b := b) (walk_range (lo := 0) (n := n)) (fun i y => ∃ z : Int, y = .int z ∧ 0 ≤ z ∧ z < h) (by omega) hx1.2 hD (fun _ _ => trivial) ?_ ?_ gn_mono⟩
    · rintro i x H2 H3 Qy hi hx ⟨rfl, rfl⟩ h1
      refine ⟨rfl, ?_⟩
      exact ⟨_, rfl, _, rfl, b, h, rfl, hx.2, by omega, by omega, fun d H4 hd hx4 => h1 _ _ ⟨_, rfl, by omega, by omega⟩ hx4⟩
    · intro ys H2 e1 e2 hx hD2
      exact fin ys H2 D e1 e2 (hx1.trans hx) hD2
end Hue
end
section
set_option maxHeartbeats 4000000
namespace Hue
open PySem PySem.Spec PyProof.Rows L2
section
variable {K : PySem.W.Frag} {σ : L2.St} {H : Hp} {p : Addr} {i j k : Nat} {xs : List V} {z : Int} {Q : VK} {n : Nat} {s : Nat → Int}
theorem ixSl (h : H p = some (.lst (stV n s))) (e : i < n) (q : Q (.int (s i)) H) : rIxL K (.ref p) (vN i) H Q := ixL h (stV_at e) q
theorem r_isiT (e : σ[i]? = some (some (.ref p))) (h : H p = some (.tup xs)) (q : Q (.bl true) H) : tCB (rIsi K) (tCons (tVar i) (tCons (tC (.ty "tuple")) tNil)) σ H Q := ⟨_, e, _, _, _, _, _, rfl, .ty "tuple", .base (.tup h), kit_ty (a := "tuple") (b := "tuple") (r := true) (by decide +kernel), q⟩
theorem r_isiL (e : σ[i]? = some (some (.ref p))) (h : H p = some (.lst xs)) (q : Q (.bl true) H) : tCB (rIsi K) (tCons (tVar i) (tCons (tC (.ty "list")) tNil)) σ H Q := ⟨_, e, _, _, _, _, _, rfl, .ty "list", .base (.lst h), kit_ty (a := "list") (b := "list") (r := true) (by decide +kernel), q⟩
theorem isiII (q : Q (.bl true) H) : rIsi K [.int z, .ty "int"] H Q := ⟨_, _, _, _, _, rfl, .ty "int", .base (.int z), kit_ty (a := "int") (b := "int") (r := true) (by decide +kernel), q⟩
theorem isiIB (q : Q (.bl false) H) : rIsi K [.int z, .ty "bool"] H Q := ⟨_, _, _, _, _, rfl, .ty "bool", .base (.int z), kit_ty (a := "int") (b := "bool") (r := false) (by decide +kernel), q⟩
theorem isiBB {b : Bool} (q : Q (.bl true) H) : rIsi K [.bl b, .ty "bool"] H Q := ⟨_, _, _, _, _, rfl, .ty "bool", .base (.bl b), kit_ty (a := "bool") (b := "bool") (r := true) (by decide +kernel), q⟩
theorem r_isiTI (e : σ[i]? = some (some (.ref p))) (e2 : σ[j]? = some (some (vN k))) (h : H p = some (.tup xs)) (hx : xs[k]? = some (.int z)) (q : Q (.bl true) H) : tCB (rIsi K) (tCons (tOp (rIxT K) (tVar i) (tVar j)) (tCons (tC (.ty "int")) tNil)) σ H Q := ⟨_, e, _, e2, ixT h hx (isiII q)⟩
theorem r_isiTB (e : σ[i]? = some (some (.ref p))) (e2 : σ[j]? = some (some (vN k))) (h : H p = some (.tup xs)) (hx : xs[k]? = some (.int z)) (q : Q (.bl false) H) : tCB (rIsi K) (tCons (tOp (rIxT K) (tVar i) (tVar j)) (tCons (tC (.ty "bool")) tNil)) σ H Q := ⟨_, e, _, e2, ixT h hx (isiIB q)⟩
theorem r_isiLI (e : σ[i]? = some (some (.ref p))) (e2 : σ[j]? = some (some (vN k))) (h : H p = some (.lst xs)) (hx : xs[k]? = some (.int z)) (q : Q (.bl true) H) : tCB (rIsi K) (tCons (tOp (rIxL K) (tVar i) (tVar j)) (tCons (tC (.ty "int")) tNil)) σ H Q := ⟨_, e, _, e2, ixL h hx (isiII q)⟩
theorem r_isiLB (e : σ[i]? = some (some (.ref p))) (e2 : σ[j]? = some (some (vN k))) (h : H p = some (.lst xs)) (hx : xs[k]? = some (.int z)) (q : Q (.bl false) H) : tCB (rIsi K) (tCons (tOp (rIxL K) (tVar i) (tVar j)) (tCons (tC (.ty "bool")) tNil)) σ H Q := ⟨_, e, _, e2, ixL h hx (isiIB q)⟩
end

theorem p__law_step {K : PySem.W.Frag} : ∀ vs H Q E, sp__law_step K vs H Q E → vs.length = 4 ∧ t__law_step K { nx := fun _ H' => Q .non H', rt := Q } (start N__law_step vs) H := by
  rintro vs H Q E ⟨bl, t, v, B, n, h, s, rfl, hb, ir, hn, h2, hs, hv, h0, q⟩
  refine ⟨rfl, ?_⟩
  refine r_listT (i := 2) rfl hs.at_ fun R hR => ?_
  have s1 : Same H (upd H R (.lst (stV n s))) := sm_new hR
  refine ⟨_, rfl, _, rfl, ixSl upd_same hv ?_⟩
  refine ⟨_, _, rfl, rfl, _, rfl, _, rfl, stl upd_same (by rw [stV_len]; exact hv) ?_⟩
  rw [stV_set]
  have s2 : Same H (upd (upd H R (.lst (stV n s))) R (.lst (stV n fun j => if j = v then s v - 1 else s j))) := sm_mut s1 hR
  obtain ⟨as, b1, b2⟩ := hb
  obtain ⟨p, p1, p2⟩ := b2.get (belRows_at hv)
  have hpR : p ≠ R := ne_of_none p2 hR
  have hl := s2 _ _ p2
  refine ⟨_, rfl, _, rfl, ixL (s2 _ _ b1) (by rw [List.getElem?_map, p1]; rfl) ?_⟩
  refine ⟨p, rfl, ⟨_, SqL.of hl⟩, for_list (xs := vNs (belRow B n v)) (fun i σ H' => Same H H' ∧ H' p = some (.lst (vNs (belRow B n v))) ∧ (∃ o, σ = [some (.int h), some (.ref bl), some (.ref t), some (vN v), some (.ref R), o]) ∧
    H' R = some (.lst (stV n fun j => if j = v then s v - 1 else if j ∈ (belRow B n v).take i then td h (s j) else s j))) ⟨s2, hl, ⟨_, rfl⟩, ?_⟩ (fun i σ H' _ e => SqL.of e.2.1) ?_ ?_⟩
  · rw [upd_same]
    simp
  · rintro i x σ H' hx ⟨sm', hl', ⟨o, rfl⟩, hr⟩
    obtain ⟨w, hw, rfl⟩ := of_vNs hx
    have hm := mem_belRow.mp (mem_at hw)
    have hwv : w ≠ v := fun e => by
      rw [e, ir] at hm
      cases hm.2
    have hnt : w ∉ (belRow B n v).take i := fun q => by
      have nd : (belRow B n v).Nodup := List.Pairwise.filter _ List.nodup_range
      obtain ⟨k, hk⟩ := List.mem_iff_getElem?.mp q
      rw [List.getElem?_take] at hk
      by_cases hki : k < i
      · rw [if_pos hki] at hk
        have := (List.getElem?_inj (lt_at hk) nd).mp (hk.trans hw.symm)
        omega
      · rw [if_neg hki] at hk
        cases hk
    have ew : (if w = v then s v - 1 else if w ∈ (belRow B n v).take i then td h (s w) else s w) = s w := by rw [if_neg hwv, if_neg hnt]
    have go : ∀ (x : Int) (H2 : Hp), x = td h (s w) → Same H H2 → H2 p = some (.lst (vNs (belRow B n v))) → H2 R = some (.lst (stV n fun j => if j = w then x else if j = v then s v - 1 else if j ∈ (belRow B n v).take i then td h (s j) else s j)) →
        Same H H2 ∧ H2 p = some (.lst (vNs (belRow B n v))) ∧ (∃ o, ([some (.int h), some (.ref bl), some (.ref t), some (vN v), some (.ref R), some (vN w)] : L2.St) = [some (.int h), some (.ref bl), some (.ref t), some (vN v), some (.ref R), o]) ∧
    H2 R = some (.lst (stV n fun j => if j = v then s v - 1 else if j ∈ (belRow B n v).take (i + 1) then td h (s j) else s j)) := by
      intro x H2 ex e1 e2 e3
      refine ⟨e1, e2, ⟨_, rfl⟩, ?_⟩
      rw [e3, take_at hw, ex]
      refine congrArg (fun z => some (HO.lst z)) (stV_congr fun j _ => ?_)
      by_cases e : j = w
      · subst e
        rw [if_pos rfl, if_neg hwv, if_pos (by simp)]
      · rw [if_neg e]
        by_cases e2 : j = v
        · rw [if_pos e2, if_pos e2]
        · rw [if_neg e2, if_neg e2]
          simp [e]
    refine ⟨_, rfl, _, rfl, ixSl hr hm.1 ?_⟩
    rw [ew]
    refine ⟨_, _, rfl, rfl, _, rfl, _, rfl, stl hr (by rw [stV_len]; exact hm.1) ?_⟩
    rw [stV_set]
    have hR2 : (upd H' R (.lst (stV n fun j => if j = w then s w - 1 else if j = v then s v - 1 else if j ∈ (belRow B n v).take i then td h (s j) else s j))) R = some (.lst (stV n fun j => if j = w then s w - 1 else if j = v then s v - 1 else if j ∈ (belRow B n v).take i then td h (s j) else s j)) := upd_same
    refine ⟨_, rfl, _, rfl, ixSl hR2 hm.1 ?_⟩
    rw [if_pos rfl]
    refine kc (ltI rfl ⟨_, rfl, ?_⟩)
    have hlo := hs.lo w
    by_cases hz : s w - 1 < 0
    · rw [decide_eq_true hz]
      refine iteT ⟨_, rfl, _, _, rfl, rfl, _, rfl, _, rfl, stl hR2 (by rw [stV_len]; exact hm.1) ?_⟩
      rw [stV_set]
      refine go (h - 1) _ ?_ (sm_mut (sm_mut sm' hR) hR) (by rw [upd_ne hpR, upd_ne hpR]; exact hl') ?_
      · unfold td
        rw [if_neg (by omega)]
      · rw [upd_same]
        refine congrArg (fun z => some (HO.lst z)) (stV_congr fun j _ => ?_)
        by_cases e : j = w
        · rw [if_pos e, if_pos e]
        · rw [if_neg e, if_neg e, if_neg e]
    · rw [decide_eq_false hz]
      refine iteF (go (s w - 1) _ ?_ (sm_mut sm' hR) (by rw [upd_ne hpR]; exact hl') hR2)
      unfold td
      rw [if_pos (by omega)]
  · rintro σ H' ⟨sm', hl', ⟨o, rfl⟩, hb'⟩
    refine ⟨_, rfl, R, _, rfl, .inl ⟨SqL.of hb', fun z hz => ?_⟩⟩
    have e : stV n (fun j => if j = v then s v - 1 else if j ∈ (belRow B n v).take (vNs (belRow B n v)).length then td h (s j) else s j) = stV n (mv B h s v) := stV_congr fun j hj => by
      unfold mv
      rw [vNs_len, List.take_length]
      by_cases e : j = v
      · rw [if_pos e, if_pos e, e]
      · rw [if_neg e, if_neg e]
        by_cases e2 : B v j = true
        · rw [if_pos (mem_belRow.mpr ⟨hj, e2⟩), if_pos e2]
        · rw [if_neg (fun z => e2 (mem_belRow.mp z).2), if_neg e2]
    rw [e]
    exact q.at sm' z hz

theorem p__law_same {K : PySem.W.Frag} : ∀ vs H Q E, sp__law_same K vs H Q E → vs.length = 2 ∧ t__law_same K { nx := fun _ H' => Q .non H', rt := Q } (start N__law_same vs) H := by
  rintro vs H Q E ⟨a, c, n, s, rfl, ha, hc, hn, q⟩
  refine ⟨rfl, ?_⟩
  refine r_isiT (i := 0) rfl ha ?_
  refine ⟨true, rfl, iteF ?_⟩
  refine r_lenT (i := 0) rfl ha ?_
  refine r_lenT (i := 1) rfl hc ?_
  refine neN ⟨_, rfl, ?_⟩
  rw [decide_eq_true rfl]
  refine iteF ?_
  refine r_lenT (i := 1) rfl hc ?_
  rw [stV_len]
  refine ⟨_, rfl, by omega, by omega, for_range (lo := 0) (n := n) (fun i σ H' => H' = H ∧ ∃ o, σ = [some (.ref a), some (.ref c), o]) ⟨rfl, _, rfl⟩ ?_ ?_⟩
  · rintro i σ H' hi ⟨rfl, o, rfl⟩
    show tIfS _ _ _ _ ([some (.ref a), some (.ref c), some (.int (0 + (i : Int)))] : L2.St) H'
    rw [Int.zero_add]
    refine r_isiTI (i := 0) (j := 2) rfl rfl ha (stV_at hi) ?_
    refine ⟨true, rfl, iteF ?_⟩
    refine r_isiTB (i := 0) (j := 2) rfl rfl ha (stV_at hi) ?_
    refine ⟨false, rfl, iteF ?_⟩
    refine ⟨_, rfl, _, rfl, ixT ha (stV_at hi) ?_⟩
    refine ⟨_, rfl, _, rfl, ixT hc (stV_at hi) ?_⟩
    refine neI ⟨_, rfl, ?_⟩
    rw [decide_eq_true rfl]
    exact iteF ⟨rfl, _, rfl⟩
  · rintro σ H' ⟨rfl, o, rfl⟩
    exact q
theorem p__law_listed {K : PySem.W.Frag} : ∀ vs H Q E, sp__law_listed K vs H Q E → vs.length = 2 ∧ t__law_listed K { nx := fun _ H' => Q .non H', rt := Q } (start N__law_listed vs) H := by
  rintro vs H Q E ⟨a, c, l, rfl, ha, hc, hn, q⟩
  refine ⟨rfl, ?_⟩
  refine r_isiL (i := 0) rfl ha ?_
  refine ⟨true, rfl, iteF ?_⟩
  refine r_lenN (i := 0) rfl ha ?_
  refine r_lenN (i := 1) rfl hc ?_
  refine neN ⟨_, rfl, ?_⟩
  rw [decide_eq_true rfl]
  refine iteF ?_
  refine r_lenN (i := 1) rfl hc ?_
  refine ⟨_, rfl, by omega, by omega, for_range (lo := 0) (n := l.length) (fun i σ H' => H' = H ∧ ∃ o, σ = [some (.ref a), some (.ref c), o]) ⟨rfl, _, rfl⟩ ?_ ?_⟩
  · rintro i σ H' hi ⟨rfl, o, rfl⟩
    show tIfS _ _ _ _ ([some (.ref a), some (.ref c), some (.int (0 + (i : Int)))] : L2.St) H'
    rw [Int.zero_add]
    have hv := vNs_at (getD_at hi)
    refine r_isiLI (i := 0) (j := 2) rfl rfl ha hv ?_
    refine ⟨true, rfl, iteF ?_⟩
    refine r_isiLB (i := 0) (j := 2) rfl rfl ha hv ?_
    refine ⟨false, rfl, iteF ?_⟩
    refine ⟨_, rfl, _, rfl, ixL ha hv ?_⟩
    refine ⟨_, rfl, _, rfl, ixL hc hv ?_⟩
    refine neN ⟨_, rfl, ?_⟩
    rw [decide_eq_true rfl]
    exact iteF ⟨rfl, _, rfl⟩
  · rintro σ H' ⟨rfl, o, rfl⟩
    exact q
theorem p__law_rows {K : PySem.W.Frag} : ∀ vs H Q E, sp__law_rows K vs H Q E → vs.length = 2 ∧ t__law_rows K { nx := fun _ H' => Q .non H', rt := Q } (start N__law_rows vs) H := by
  rintro vs H Q E ⟨a, c, rows, rfl, ha, hc, hn, hr, q⟩
  refine ⟨rfl, ?_⟩
  have ha' := ha
  have hc' := hc
  obtain ⟨as, ha1, ha2⟩ := ha
  obtain ⟨cs, hc1, hc2⟩ := hc
  refine r_isiL (i := 0) rfl ha1 ?_
  refine ⟨true, rfl, iteF ?_⟩
  refine r_lenL (i := 0) rfl ha1 ?_
  refine r_lenL (i := 1) rfl hc1 ?_
  rw [List.length_map, List.length_map, ha2.1, hc2.1]
  refine neN ⟨_, rfl, ?_⟩
  rw [decide_eq_true rfl]
  refine iteF ?_
  refine r_lenL (i := 1) rfl hc1 ?_
  rw [List.length_map, hc2.1]
  refine ⟨_, rfl, by omega, by omega, for_range (lo := 0) (n := rows.length) (fun i σ H' => H' = H ∧ ∃ o, σ = [some (.ref a), some (.ref c), o]) ⟨rfl, _, rfl⟩ ?_ ?_⟩
  · rintro i σ H' hi ⟨rfl, o, rfl⟩
    show tIfS _ _ _ _ ([some (.ref a), some (.ref c), some (.int (0 + (i : Int)))] : L2.St) H'
    rw [Int.zero_add]
    obtain ⟨r, hri⟩ := at_ex hi
    refine ⟨_, rfl, _, rfl, ixR ha' hri fun z hz => ?_⟩
    refine ⟨_, rfl, _, rfl, ixR hc' hri fun y hy => ?_⟩
    refine ⟨z, y, r, rfl, hz, hy, hr r (mem_at hri), ?_⟩
    exact ⟨_, rfl, iteF ⟨rfl, _, rfl⟩⟩
  · rintro σ H' ⟨rfl, o, rfl⟩
    exact q

theorem apart_rows {B : Bel} {n x y : Nat} (hx : x < n) (hy : y < n) : apart B x y = (!decide (x = y) && (!decide (y ∈ belRow B n x) && !decide (x ∈ belRow B n y))) := by
  have e : ∀ a b, b < n → decide (b ∈ belRow B n a) = B a b := fun a b hb => by
    rw [Bool.eq_iff_iff, decide_eq_true_eq, mem_belRow]
    exact ⟨fun h => h.2, fun h => ⟨hb, h⟩⟩
  rw [e x y hy, e y x hx]
  unfold apart
  have e2 : (x == y) = decide (x = y) := by rw [Bool.eq_iff_iff, beq_iff_eq, decide_eq_true_eq]
  rw [e2]
theorem p__law_apart {K : PySem.W.Frag} : ∀ vs H Q E, sp__law_apart K vs H Q E → vs.length = 3 ∧ t__law_apart K { nx := fun _ H' => Q .non H', rt := Q } (start N__law_apart vs) H := by
  rintro vs H Q E ⟨bl, x, y, B, n, rfl, hb, hx, hy, q⟩
  refine ⟨rfl, ?_⟩
  rw [apart_rows hx hy] at q
  refine ⟨_, rfl, _, rfl, neN ⟨_, rfl, ?_⟩⟩
  cases e1 : decide (x = y) with
  | true =>
    rw [e1] at q
    exact iteF q
  | false =>
    rw [e1] at q
    refine iteT ?_
    refine ⟨_, rfl, _, rfl, _, rfl, ixR hb (belRows_at hx) fun z hz => ?_⟩
    refine notin hz ⟨_, rfl, ?_⟩
    cases e2 : decide (y ∈ belRow B n x) with
    | true =>
      rw [e2] at q
      exact iteF q
    | false =>
      rw [e2] at q
      refine iteT ?_
      refine ⟨_, rfl, _, rfl, _, rfl, ixR hb (belRows_at hy) fun z hz => ?_⟩
      exact notin hz q

theorem p__law_odd_lamp {K : PySem.W.Frag} : ∀ vs H Q E, sp__law_odd_lamp K vs H Q E → vs.length = 2 ∧ t__law_odd_lamp K { nx := fun _ H' => Q .non H', rt := Q } (start N__law_odd_lamp vs) H := by
  rintro vs H Q E ⟨b, n, rfl, hb, n1, n2, q⟩
  refine ⟨rfl, ?_⟩
  refine ⟨_, rfl, b, 8, rfl, hb, by decide, by decide, fun d H1 hd hx => ?_⟩
  refine ⟨_, rfl, kc (eqN (y := 2) ⟨_, rfl, ?_⟩)⟩
  by_cases h2 : d = 2
  · rw [decide_eq_true h2]
    refine iteT ⟨_, rfl, kc (adN (y := 1) ?_)⟩
    refine ⟨_, rfl, b, 100, rfl, hx.2, by decide, by decide, fun e H2 he hx2 => ?_⟩
    exact adN (q _ _ (hx.trans hx2) (.int _ (by omega) (by omega)))
  · rw [decide_eq_false h2]
    refine iteF ?_
    refine ⟨_, rfl, _, rfl, _, rfl, ?_⟩
    refine ⟨(by decide), fun T hT => ?_⟩
    have hT1 : (upd H1 T (.tup [.int 0])) T = some (.tup [.int 0]) := upd_same
    have hx1 : Bx b H (upd H1 T (.tup [.int 0])) := hx.new hT
    have nT := hx.2.ne hT
    refine ⟨n_line (by show 8 ≤ _; decide), fun L hL => ?_⟩
    have hTL : T ≠ L := ne_of_none hT1 hL
    have hx2 := hx1.new (o := .lst [vN n, .int (-1), .int (-2), .bl true, .bl false, .non, .str "0", .ref T]) hL
    have hT2 : rm b (upd (upd H1 T (.tup [.int 0])) L (.lst [vN n, .int (-1), .int (-2), .bl true, .bl false, .non, .str "0", .ref T])) T = some (.tup [.int 0]) := rm_of (by rw [upd_ne hTL]; exact hT1) nT
    refine ⟨_, rfl, ?_⟩
    have hL2 : (upd (upd H1 T (.tup [.int 0])) L (.lst [vN n, .int (-1), .int (-2), .bl true, .bl false, .non, .str "0", .ref T])) L = some (.lst [vN n, .int (-1), .int (-2), .bl true, .bl false, .non, .str "0", .ref T]) := upd_same
    have hd8 : d < 8 := by omega
    match d, hd8, h2 with
    | 0, _, _ => exact ixL hL2 rfl (q _ _ hx2 (.int _ (by omega) (by omega)))
    | 1, _, _ => exact ixL hL2 rfl (q _ _ hx2 (.int _ (by omega) (by omega)))
    | 3, _, _ => exact ixL hL2 rfl (q _ _ hx2 (.bl _))
    | 4, _, _ => exact ixL hL2 rfl (q _ _ hx2 (.bl _))
    | 5, _, _ => exact ixL hL2 rfl (q _ _ hx2 .non)
    | 6, _, _ => exact ixL hL2 rfl (q _ _ hx2 .str)
    | 7, _, _ => exact ixL hL2 rfl (q _ _ hx2 (.tup hT2))
end Hue
end
section
set_option maxHeartbeats 4000000
namespace Hue
open PySem PySem.Spec PyProof.Rows L2
/-! ### tuples of numbers -/
def dT (l : List Nat) : PyData := .tuple (l.map fun x : Nat => PyData.int (x : Int))
theorem dp_T {K : PySem.W.Frag} {H : Hp} {a : Addr} {l : List Nat} (h : H a = some (.tup (vNs l))) : Dp K H (.ref a) (dT l) := .tup (SqT.of h) (dp_ints l)
theorem sh_T (l : List Nat) : SeqAt.shaped (dT l) = true := by
  refine shaped_of ?_ ?_
  · show PyData.canLay0 (.tuple _) = true
    simp only [PyData.canLay0]
    exact lay_ints l
  · show PyData.depth (.tuple _) ≤ 64
    have := dep_ints l
    simp only [PyData.depth]
    omega
theorem eqv_T (l m : List Nat) : PyData.eqv (dT l) (dT m) = decide (l = m) := eqv_ints l m
theorem dnil {l : List Nat} : decide (l = []) = l.isEmpty := by cases l <;> rfl
theorem eqT0 {K : PySem.W.Frag} {H : Hp} {p q : Addr} {l : List Nat} {Q : VK} (h1 : H p = some (.tup (vNs l))) (h2 : H q = some (.tup [])) (k : Q (.bl l.isEmpty) H) : rEqD K (.ref p) (.ref q) H Q :=
  ⟨_, dT [], dp_T h1, dp_T h2, sh_T _, sh_T _, by rw [eqv_T, dnil]; exact k⟩
theorem neT0 {K : PySem.W.Frag} {H : Hp} {p q : Addr} {l : List Nat} {Q : VK} (h1 : H p = some (.tup (vNs l))) (h2 : H q = some (.tup [])) (k : Q (.bl (!l.isEmpty)) H) : rNeD K (.ref p) (.ref q) H Q :=
  ⟨_, dT [], dp_T h1, dp_T h2, sh_T _, sh_T _, by rw [eqv_T, dnil]; exact k⟩
theorem eqN0 {K : PySem.W.Frag} {H : Hp} {p q : Addr} {l : List Nat} {Q : VK} (h1 : H p = some (.lst (vNs l))) (h2 : H q = some (.lst [])) (k : Q (.bl l.isEmpty) H) : rEqD K (.ref p) (.ref q) H Q :=
  eqD (m := []) h1 h2 (by rw [dnil]; exact k)
theorem neN0 {K : PySem.W.Frag} {H : Hp} {p q : Addr} {l : List Nat} {Q : VK} (h1 : H p = some (.lst (vNs l))) (h2 : H q = some (.lst [])) (k : Q (.bl (!l.isEmpty)) H) : rNeD K (.ref p) (.ref q) H Q :=
  neD (m := []) h1 h2 (by rw [dnil]; exact k)
theorem okm_lit {B : Bel} {n : Nat} {g : Bool} {s : Nat → Int} {v : Nat} : okm B n g s v = (!decide (s v = 0) && (!g || ((belRow B n v).filter fun w => decide (0 < s w)).isEmpty)) := by
  unfold okm
  have ez : (s v == 0) = decide (s v = 0) := by rw [Bool.eq_iff_iff, beq_iff_eq, decide_eq_true_eq]
  rw [ez]
  congr 2
  rw [Bool.eq_iff_iff, List.all_eq_true, List.isEmpty_iff, List.filter_eq_nil_iff]
  constructor
  · intro h w hw
    obtain ⟨h1, h2⟩ := mem_belRow.mp hw
    have := h w (List.mem_range.mpr h1)
    rw [h2] at this
    simpa using this
  · intro h w hw
    cases e : B v w with
    | false => rfl
    | true =>
      have := h w (mem_belRow.mpr ⟨List.mem_range.mp hw, e⟩)
      simpa using this

theorem p__law_wrong {K : PySem.W.Frag} : ∀ vs H Q E, sp__law_wrong K vs H Q E → vs.length = 4 ∧ t__law_wrong K { nx := fun _ H' => Q .non H', rt := Q } (start N__law_wrong vs) H := by
  rintro vs H Q E ⟨bl, t, v, g, B, n, h, s, rfl, hb, hs, hv, n16, q⟩
  refine ⟨rfl, ?_⟩
  refine ⟨_, rfl, _, rfl, ixS hs.at_ hv ?_⟩
  refine kc (eqI ⟨_, rfl, ?_⟩)
  rw [okm_lit] at q
  by_cases h0 : s v = 0
  · rw [decide_eq_true h0] at q ⊢
    refine iteT ⟨_, rfl, ⟨n_line (by show 2 ≤ _; decide), fun p hp => ?_⟩⟩
    exact q p [1, v] _ (sm_new hp) upd_same rfl
  · rw [decide_eq_false h0] at q ⊢
    refine iteF ⟨_, rfl, _, rfl, ixR hb (belRows_at hv) fun w hw => ?_⟩
    refine ⟨w, rfl, ⟨_, SqL.of hw⟩, fun D hD => lc_fn (walk_list (xs := vNs (belRow B n v))) (fun i => ((belRow B n v)[i]?).bind fun z => if decide (0 < s z) = true then some (vN z) else none) (by rw [vNs_len]; have := @belRow_len B n v; omega) hD (fun _ sm => SqL.of (sm _ _ hw)) ?_ ?_⟩
    · rintro i z H1 H2 Qy Qn hi sm ⟨rfl, hz⟩ h1 h2
      obtain ⟨u, hu, rfl⟩ := of_vNs hz
      have un := (mem_belRow.mp (mem_at hu)).1
      refine ⟨rfl, ⟨_, rfl, _, rfl, ixS (sm _ _ hs.at_) un ?_⟩⟩
      refine kc (gtI rfl ⟨_, rfl, ?_⟩)
      cases e : decide (0 < s u) with
      | true => exact iteT ⟨_, rfl, h1 _ _ (by show ((belRow B n v)[i]?).bind _ = _; rw [hu]; exact if_pos e) (Same.refl _)⟩
      | false => exact iteF (h2 _ (by show ((belRow B n v)[i]?).bind _ = _; rw [hu]; exact if_neg (by rw [e]; exact Bool.false_ne_true)) (Same.refl _))
    · intro H1 sm hc
      rw [vNs_len, fm_list] at hc
      refine ⟨_, rfl, g, rfl, ?_⟩
      have emp : ∀ H2, Same H H2 → (!g || ((belRow B n v).filter fun w => decide (0 < s w)).isEmpty) = true → ∀ p, H2 p = Option.none → Q (.ref p) (upd H2 p (.tup [])) := fun H2 s2 e p hp => q p [] _ (s2.trans (sm_new hp)) upd_same (by rw [e]; rfl)
      cases g with
      | false =>
        refine iteF (iteF ?_)
        exact ⟨(by decide), emp H1 sm rfl⟩
      | true =>
        refine iteT ⟨_, rfl, ⟨(by decide), fun z hz => ?_⟩⟩
        have s1 : Same H1 (upd H1 z (.lst [])) := sm_new hz
        refine neN0 (s1 _ _ hc) upd_same ⟨_, rfl, ?_⟩
        cases e : (belRow B n v).filter fun w => decide (0 < s w) with
        | nil =>
          refine iteF ⟨(by decide), emp _ (sm.trans s1) (by rw [e]; rfl)⟩
        | cons u us =>
          rw [e] at hc
          refine iteT ⟨_, rfl, _, rfl, kc (ixl (i := 0) (s1 _ _ hc) rfl ?_)⟩
          refine ⟨n_line (by show 3 ≤ _; decide), fun p hp => ?_⟩
          refine q p [2, v, u] _ (sm.trans (s1.trans (sm_new hp))) upd_same ?_
          rw [e]
          rfl

theorem atI_last {l : List Nat} {w : Nat} : atI (vNs (l ++ [w])) (-1) = some (vN w) := by
  unfold atI ixN
  rw [vNs_len, List.length_append, if_neg (by decide), if_pos (by simp; omega)]
  show (vNs (l ++ [w]))[((-1 : Int) + ((l.length + [w].length : Nat) : Int)).toNat]? = _
  have e : ((-1 : Int) + ((l.length + [w].length : Nat) : Int)).toNat = l.length := by
    simp
    omega
  rw [e]
  exact vNs_at (by simp)
theorem lamps_of {ys : List V} {n m : Nat} (hl : ys.length = m) (hy : ∀ (i : Nat) y, ys[i]? = some y → ∃ d : Nat, y = vN d ∧ d < n) : ∃ l : List Nat, ys = vNs l ∧ l.length = m ∧ ∀ x ∈ l, x < n := by
  have h : ∀ ys : List V, (∀ y ∈ ys, ∃ d : Nat, y = vN d ∧ d < n) → ∃ l : List Nat, ys = vNs l ∧ ∀ x ∈ l, x < n := by
    intro ys
    induction ys with
    | nil => exact fun _ => ⟨[], rfl, fun x hx => by simp at hx⟩
    | cons y ys ih =>
      intro hy
      obtain ⟨d, rfl, hd⟩ := hy y List.mem_cons_self
      obtain ⟨l, rfl, hl⟩ := ih fun z hz => hy z (List.mem_cons_of_mem _ hz)
      refine ⟨d :: l, rfl, fun x hx => ?_⟩
      rcases List.mem_cons.mp hx with rfl | hx
      · exact hd
      · exact hl x hx
  obtain ⟨l, rfl, h2⟩ := h ys fun y q => by
    obtain ⟨i, hi⟩ := List.mem_iff_getElem?.mp q
    exact hy i y hi
  exact ⟨l, rfl, by rw [← hl, vNs_len], h2⟩

theorem p__law_lamps {K : PySem.W.Frag} : ∀ vs H Q E, sp__law_lamps K vs H Q E → vs.length = 3 ∧ t__law_lamps K { nx := fun _ H' => Q .non H', rt := Q } (start N__law_lamps vs) H := by
  rintro vs H Q E ⟨b, p, B, n, h, s, most, rfl, hb, ⟨⟨ha, bl, sa, w1, hh, hbl, hs⟩, ir⟩, hm, q⟩
  refine ⟨rfl, ?_⟩
  have n16 := hh.n16
  have h10 := hh.h10
  refine ⟨_, rfl, p, _, rfl, SqT.of (rm_le _ _ _ _ w1), rfl, _, _, rfl, _, _, rfl, _, _, rfl, _, _, rfl, rfl, ?_⟩
  refine ⟨_, rfl, _, rfl, kc (adN (y := 1) ?_)⟩
  refine ⟨b, _, rfl, hb, by omega, by omega, fun size H1 hd hx1 => ?_⟩
  refine ⟨_, rfl, b, 2, rfl, hx1.2, by decide, by decide, fun d2 H2 hd2 hx2 => ?_⟩
  have x2 := hx1.trans hx2
  refine kc (eqN (y := 0) ⟨_, rfl, ?_⟩)
  cases e : decide (d2 = 0) with
  | true =>
    refine iteT ⟨_, rfl, _, rfl, by omega, by omega, fun D hD => lc_box (b := b) (walk_range (lo := 0) (n := size)) (fun i y => ∃ d : Nat, y = vN d ∧ d < n) (by omega) x2.2 hD (fun _ _ => trivial) ?_ ?_ gn_mono⟩
    · rintro i x H3 H4 Qy hi hx ⟨rfl, rfl⟩ h1
      refine ⟨rfl, ?_⟩
      refine ⟨_, rfl, ?_⟩
      refine r_lenT (i := 6) rfl (hx.at (x2.1 _ _ hs.at_)) ?_
      rw [stV_len]
      exact ⟨b, _, rfl, hx.2, by omega, by omega, fun d H5 hd hx5 => h1 _ _ ⟨d, rfl, by omega⟩ hx5⟩
    · intro ys H3 e1 e2 hx hD3
      obtain ⟨l, rfl, hl1, hl2⟩ := lamps_of e1 e2
      exact q D l H3 (by omega) hl2 (x2.trans hx) hD3
  | false =>
    refine iteF ⟨_, rfl, b, 2, rfl, x2.2, by decide, by decide, fun d3 H3 hd3 hx3 => ?_⟩
    have x3 := x2.trans hx3
    refine kc (eqN (y := 1) ?_)
    generalize decide (d3 = 1) = g
    refine ⟨Nat.zero_le _, fun Z hZ => ?_⟩
    have nZ : H Z = Option.none := x3.free hZ
    have zb : Z ≠ b := x3.2.ne hZ
    refine ⟨_, rfl, _, rfl, by omega, by omega, for_range (lo := 0) (n := size) (fun i σ H' => ∃ l sp s' o10 o11 o12 o13, Bx b H H' ∧ rm b H' Z = some (.lst (vNs l)) ∧ (l.length ≤ i ∧ ∀ x ∈ l, x < n) ∧ StOk (rm b H') sp n h s' ∧
      σ = [some (.ref b), some (.ref p), some (vN most), some (.ref ha), some (.int h), some (.ref bl), some (.ref sp), some (vN size), some (.bl g), some (.ref Z), o10, o11, o12, o13]) ⟨[], sa, s, _, _, _, _, x3.new hZ, rm_new zb, ⟨Nat.zero_le _, fun x hx => by simp at hx⟩, hs.mono (x3.new hZ).1, rfl⟩ ?_ ?_⟩
    · rintro i σ H4 hi ⟨l, sp, s', o10, o11, o12, o13, x4, hZ4, ⟨hl1, hl2⟩, hs', rfl⟩
      refine r_lenT (i := 6) rfl (rm_le _ _ _ _ hs'.at_) ?_
      rw [stV_len]
      refine ⟨_, rfl, by omega, by omega, fun D hD => lc_fn (walk_range (lo := 0) (n := n)) (fun v => if okm B n g s' v = true then some (vN v) else none) (by omega) hD (fun _ _ => trivial) ?_ ?_⟩
      · rintro v x H5 H6 Qy Qn hv sm ⟨rfl, rfl⟩ k1 k2
        refine ⟨rfl, ⟨_, rfl, _, rfl, .int (0 + (v : Int)), rfl, _, rfl, ?_⟩⟩
        refine ⟨bl, sp, v, g, B, n, h, s', by rw [Int.zero_add], (hbl.mono x4.1).mono ((rm_le b H4).trans sm), hs'.mono ((rm_le b H4).trans sm), hv, n16.2, fun tp ds H7 s7 htp hds => ?_⟩
        refine ⟨(by decide), fun u hu => ?_⟩
        have su : Same H7 (upd H7 u (.tup [])) := sm_new hu
        refine eqT0 (su _ _ htp) upd_same ⟨_, rfl, ?_⟩
        rw [hds]
        cases ok : okm B n g s' v with
        | true =>
          refine iteT ⟨.int (0 + (v : Int)), rfl, ?_⟩
          rw [Int.zero_add]
          exact k1 _ _ (if_pos ok) (s7.trans su)
        | false => exact iteF (k2 _ (if_neg (by rw [ok]; exact Bool.false_ne_true)) (s7.trans su))
      · intro H5 sm hD5
        rw [fm_range] at hD5
        generalize hgd : (List.range n).filter (okm B n g s') = gd at hD5
        have hgm : ∀ w ∈ gd, w < n ∧ okm B n g s' w = true := fun w hw => by
          rw [← hgd] at hw
          have := List.mem_filter.mp hw
          exact ⟨List.mem_range.mp this.1, this.2⟩
        have hgl : gd.length ≤ n := by
          rw [← hgd]
          have := List.length_filter_le (okm B n g s') (List.range n)
          rwa [List.length_range] at this
        have x5 := x4.grow sm
        refine ⟨_, rfl, Nat.zero_le _, fun z hz => ?_⟩
        have sz : Same H5 (upd H5 z (.lst [])) := sm_new hz
        have x6 := x5.grow sz
        refine eqN0 (sz _ _ hD5) upd_same ⟨_, rfl, ?_⟩
        cases gd with
        | nil =>
          refine iteT ?_
          exact ⟨_, rfl, q Z l _ (by omega) hl2 x6 ((rm_same (sm.trans sz)) _ _ hZ4)⟩
        | cons gw gws =>
          refine iteF ?_
          have s46 := sm.trans sz
          have hZ6 := rm_same s46 _ _ hZ4
          have nDb := x4.2.ne hD
          refine r_app1 (i := 9) rfl (rm_le _ _ _ _ hZ6) ?_
          refine ⟨_, rfl, _, rfl, ?_⟩
          refine r_lenN (i := 11) rfl (sz _ _ hD5) ?_
          refine ⟨b, _, rfl, x6.2, by have : 0 < (gw :: gws).length := Nat.succ_pos _; omega, by omega, fun d H7 hd hx7 => ?_⟩
          have hdl : d < (gw :: gws).length := by omega
          obtain ⟨wn, wok⟩ := hgm _ (mem_getD hdl)
          generalize hw : (gw :: gws).getD d 0 = w at wn wok
          refine ixl (hx7.at (rm_of (sz _ _ hD5) nDb)) (x := w) (by rw [← hw]; exact getD_at hdl) ?_
          refine apN (hx7.at hZ6) (by omega) ?_
          have x8 : Bx b H (upd H7 Z (.lst (vNs (l ++ [w])))) := Bx.mut hb (x6.trans hx7) nZ
          refine ⟨_, rfl, _, rfl, _, rfl, _, rfl, _, rfl, Z, vNs (l ++ [w]), -1, vN w, rfl, rfl, SqL.of upd_same, atI_last, ?_⟩
          have hspZ : sp ≠ Z := fun e => by
            have := hs'.at_
            rw [e, hZ4] at this
            cases this
          have hs7 := (hs'.mono (rm_same s46)).mono hx7.1
          refine ⟨bl, sp, w, B, n, h, s', rfl, (hbl.mono x8.1).mono (rm_le _ _), ir, n16.2, h10.1, ⟨by rw [upd_ne hspZ]; exact rm_le _ _ _ _ hs7.at_, hs7.lo, hs7.hi⟩, wn, (okm_iff.mp wok).1, fun pz H9 hpz s9 hq => ?_⟩
          refine ⟨l ++ [w], pz, _, _, _, _, _, x8.grow s9, rm_same s9 _ _ (rm_new zb), ⟨by simp; omega, fun x hx => ?_⟩, ⟨rm_of hq (x8.2.ne hpz), mv_nonneg (by omega) hs7.lo (okm_iff.mp wok).1, mv_lt hs7.hi⟩, rfl⟩
          rcases List.mem_append.mp hx with hx | hx
          · exact hl2 x hx
          · have e : x = w := by simpa using hx
            subst e
            exact wn
    · rintro σ H4 ⟨l, sp, s', o10, o11, o12, o13, x4, hZ4, ⟨hl1, hl2⟩, hs', rfl⟩
      exact ⟨_, rfl, q Z l H4 (by omega) hl2 x4 hZ4⟩
end Hue
end
section
set_option maxHeartbeats 4000000
namespace Hue
open PySem PySem.Spec PyProof.Rows L2
/-! ### lists of wires -/
theorem WRows.take {H : Hp} {as : List Addr} {ws : List (Nat × Nat)} (h : WRows H as ws) (k : Nat) : WRows H (as.take k) (ws.take k) :=
  ⟨by rw [List.length_take, List.length_take, h.1], fun i p w h1 h2 => by
    rw [List.getElem?_take] at h1 h2
    by_cases e : i < k
    · rw [if_pos e] at h1 h2
      exact h.2 i p w h1 h2
    · rw [if_neg e] at h1
      cases h1⟩
theorem WRows.drop {H : Hp} {as : List Addr} {ws : List (Nat × Nat)} (h : WRows H as ws) (k : Nat) : WRows H (as.drop k) (ws.drop k) :=
  ⟨by rw [List.length_drop, List.length_drop, h.1], fun i p w h1 h2 => by
    rw [List.getElem?_drop] at h1 h2
    exact h.2 _ p w h1 h2⟩
theorem WRows.append {H : Hp} {as bs : List Addr} {ws us : List (Nat × Nat)} (h : WRows H as ws) (g : WRows H bs us) : WRows H (as ++ bs) (ws ++ us) := by
  refine ⟨by rw [List.length_append, List.length_append, h.1, g.1], fun i p w h1 h2 => ?_⟩
  rcases Nat.lt_or_ge i as.length with hi | hi
  · rw [List.getElem?_append_left hi] at h1
    rw [List.getElem?_append_left (by rw [← h.1]; exact hi)] at h2
    exact h.2 i p w h1 h2
  · rw [List.getElem?_append_right hi] at h1
    rw [List.getElem?_append_right (by rw [← h.1]; exact hi), ← h.1] at h2
    exact g.2 _ p w h1 h2
theorem WRows.one {H : Hp} {T : Addr} {w : Nat × Nat} (h : H T = some (.tup (vW w))) : WRows H [T] [w] :=
  ⟨rfl, fun i p u h1 h2 => by
    cases i with
    | zero =>
      cases h1
      cases h2
      exact h
    | succ j => simp at h1⟩
theorem WRows.off {H : Hp} {as : List Addr} {ws : List (Nat × Nat)} {Z : Addr} {xs ys : List V} (h : WRows H as ws) (hz : H Z = some (.lst xs)) : WRows (upd H Z (.lst ys)) as ws :=
  ⟨h.1, fun i p w h1 h2 => by
    have := h.2 i p w h1 h2
    rw [upd_ne (fun e : p = Z => by rw [e, hz] at this; cases this)]
    exact this⟩
theorem WRows.box {b : Addr} {H : Hp} {as : List Addr} {ws : List (Nat × Nat)} (h : WRows H as ws) (hb : BoxAt H b) : WRows (rm b H) as ws :=
  ⟨h.1, fun i p w h1 h2 => by
    have := h.2 i p w h1 h2
    obtain ⟨p', r, s, c, cs, e, _⟩ := hb
    exact rm_of this (fun q : p = b => by rw [q, e] at this; cases this)⟩
theorem WRows.get {H : Hp} {as : List Addr} {ws : List (Nat × Nat)} (h : WRows H as ws) {i : Nat} {w : Nat × Nat} (hw : ws[i]? = some w) : ∃ p, as[i]? = some p ∧ H p = some (.tup (vW w)) := by
  have hi : i < as.length := by
    rw [h.1]
    exact lt_at hw
  exact ⟨as[i], List.getElem?_eq_getElem hi, h.2 i _ w (List.getElem?_eq_getElem hi) hw⟩
theorem cut_from {xs : List V} {k : Nat} : cutV xs (some (k : Int)) Option.none = xs.drop k := by
  unfold cutV
  rw [HT.sIx_nat]
  show (xs.drop (min k xs.length)).take (xs.length - min k xs.length) = _
  rcases Nat.le_total k xs.length with h | h
  · rw [Nat.min_eq_left h, List.take_of_length_le (by rw [List.length_drop]; omega)]
  · rw [Nat.min_eq_right h, List.drop_of_length_le (Nat.le_refl _), List.drop_of_length_le h, List.take_nil]
theorem cut_to {xs : List V} {k : Nat} : cutV xs Option.none (some (k : Int)) = xs.take k := by
  unfold cutV
  rw [HT.sIx_nat]
  show (xs.drop 0).take (min k xs.length - 0) = _
  rw [List.drop_zero, Nat.sub_zero]
  rcases Nat.le_total k xs.length with h | h
  · rw [Nat.min_eq_left h]
  · rw [Nat.min_eq_right h, List.take_of_length_le (Nat.le_refl _), List.take_of_length_le h]

/-- the wires so far: all to lamps of the line ahead of c0, or to its c0-th from those ahead of a0 -/
structure Good (line : List Nat) (ws : List (Nat × Nat)) (c0 a0 : Nat) : Prop where
  nd : ws.Nodup
  dn : ∀ u w, (u, w) ∈ ws → ∃ a c : Nat, a < c ∧ line[a]? = some u ∧ line[c]? = some w ∧ (c < c0 ∨ (c = c0 ∧ a < a0))
theorem Good.mono {line : List Nat} {ws : List (Nat × Nat)} {c a b : Nat} (g : Good line ws c a) (h : a ≤ b) : Good line ws c b := ⟨g.nd, fun u w q => by
  obtain ⟨i, j, h1, h2, h3, h4⟩ := g.dn u w q
  exact ⟨i, j, h1, h2, h3, by omega⟩⟩
theorem Good.next {line : List Nat} {ws : List (Nat × Nat)} {c a : Nat} (g : Good line ws c a) : Good line ws (c + 1) 0 := ⟨g.nd, fun u w q => by
  obtain ⟨i, j, h1, h2, h3, h4⟩ := g.dn u w q
  exact ⟨i, j, h1, h2, h3, by omega⟩⟩
theorem Good.ok {line : List Nat} {ws : List (Nat × Nat)} {c a : Nat} (g : Good line ws c a) : WsOk line ws := ⟨g.nd, fun u w q => by
  obtain ⟨i, j, h1, h2, h3, h4⟩ := g.dn u w q
  exact ⟨i, j, h1, h2, h3⟩⟩
theorem Good.add {line : List Nat} {ws : List (Nat × Nat)} {c a0 a u w : Nat} (nd : line.Nodup) (g : Good line ws c a0) (h : a0 ≤ a) (hc : a < c) (hu : line[a]? = some u) (hw : line[c]? = some w) : Good line (ws ++ [(u, w)]) c (a + 1) := by
  refine ⟨List.nodup_append.mpr ⟨g.nd, by simp, fun x h1 y h2 e => ?_⟩, fun u' w' q => ?_⟩
  · have e2 : y = (u, w) := by simpa using h2
    subst e2 e
    obtain ⟨i, j, h1, h2, h3, h4⟩ := g.dn u w h1
    have e1 := (List.getElem?_inj (lt_at h2) nd).mp (h2.trans hu.symm)
    have e2 := (List.getElem?_inj (lt_at h3) nd).mp (h3.trans hw.symm)
    omega
  · rcases List.mem_append.mp q with q | q
    · obtain ⟨i, j, h1, h2, h3, h4⟩ := g.dn u' w' q
      exact ⟨i, j, h1, h2, h3, by omega⟩
    · have e : (u', w') = (u, w) := by simpa using q
      cases e
      exact ⟨a, c, hc, hu, hw, .inr ⟨rfl, Nat.lt_succ_self a⟩⟩
theorem WsOk.perm {line : List Nat} {ws us : List (Nat × Nat)} (h : WsOk line ws) (p : us.Perm ws) : WsOk line us := ⟨p.nodup_iff.mpr h.nd, fun u w q => h.dn u w (p.mem_iff.mp q)⟩
theorem WsOk.sub {line : List Nat} {ws us : List (Nat × Nat)} (h : WsOk line ws) (p : us.Sublist ws) : WsOk line us := ⟨h.nd.sublist p, fun u w q => h.dn u w (p.subset q)⟩

/-- the wires stand in the list at Z -/
structure WI (b : Addr) (H : Hp) (Z : Addr) (ws : List (Nat × Nat)) (H' : Hp) : Prop where
  bx : Bx b H H'
  at_ : ∃ as : List Addr, H' Z = some (.lst (as.map V.ref)) ∧ WRows H' as ws
theorem WI.turn {b Z : Addr} {H H1 H2 : Hp} {ws : List (Nat × Nat)} (nZ : Z ≠ b) (x : WI b H Z ws H1) (t : Bx b H1 H2) : WI b H Z ws H2 := by
  obtain ⟨as, h1, h2⟩ := x.at_
  exact ⟨x.bx.trans t, as, t.at (rm_of h1 nZ), ((h2.box x.bx.2).mono t.1).mono (rm_le _ _)⟩
theorem wi_app {b Z : Addr} {H H' : Hp} {ws : List (Nat × Nat)} {u w : Nat} {Q : VK} (hb : BoxAt H b) (hZ : H Z = Option.none) (x : WI b H Z ws H') (hl : ws.length < 1000) (q : ∀ H2, WI b H Z (ws ++ [(u, w)]) H2 → Q .non H2) :
    ∀ T, H' T = Option.none → rAppend (.ref Z) [.ref T] (upd H' T (.tup [vN u, vN w])) Q := by
  intro T hT
  obtain ⟨as, h1, h2⟩ := x.at_
  have hTZ : Z ≠ T := ne_of_none h1 hT
  have h1' : (upd H' T (.tup [vN u, vN w])) Z = some (.lst (as.map V.ref)) := by
    rw [upd_ne hTZ]
    exact h1
  have h2' : WRows (upd H' T (.tup [vN u, vN w])) (as ++ [T]) (ws ++ [(u, w)]) := (h2.mono (sm_new hT)).append (WRows.one upd_same)
  refine apL h1' (by rw [List.length_map, h2.1]; omega) (q _ ⟨Bx.mut hb (x.bx.new hT) hZ, as ++ [T], ?_, h2'.off h1'⟩)
  rw [upd_same]
  simp

theorem p__law_wires {K : PySem.W.Frag} : ∀ vs H Q E, sp__law_wires K vs H Q E → vs.length = 2 ∧ t__law_wires K { nx := fun _ H' => Q .non H', rt := Q } (start N__law_wires vs) H := by
  rintro vs H Q E ⟨b, la, line, n, rfl, hb, hl, pm, n1, n2, q⟩
  refine ⟨rfl, ?_⟩
  have ln : line.length = n := by rw [pm.length_eq, List.length_range]
  have nd : line.Nodup := pm.nodup_iff.mpr List.nodup_range
  refine ⟨_, rfl, b, 6, rfl, hb, by decide, by decide, fun sh H1 hsh hx1 => ?_⟩
  refine ⟨Nat.zero_le _, fun Z hZ => ?_⟩
  have zb := hx1.2.ne hZ
  have hZ0 : H Z = Option.none := hx1.free hZ
  refine r_lenN (i := 1) rfl ((sm_new hZ) _ _ (hx1.at hl)) ?_
  refine ⟨_, _, rfl, by omega, for_range (lo := 1) (n := ((line.length : Int) - 1).toNat) (fun i σ H' => ∃ ws o4 o5 o6, WI b H Z ws H' ∧ Good line ws (i + 1) 0 ∧ ws.length ≤ 16 * i ∧ σ = [some (.ref b), some (.ref la), some (vN sh), some (.ref Z), o4, o5, o6]) ⟨[], _, _, _, ⟨hx1.new hZ, [], upd_same, rfl, fun i p w h1 h2 => by simp at h1⟩, ⟨List.nodup_nil, fun u w h => by simp at h⟩, by simp, rfl⟩ ?_ ?_⟩
  · rintro i σ H2 hi ⟨ws, o4, o5, o6, x, g, wl, rfl⟩
    have ei : V.int (1 + (i : Int)) = vN (i + 1) := by
      show _ = V.int ((i + 1 : Nat) : Int)
      rw [Int.add_comm]
      rfl
    show tSeq _ _ _ ([some (.ref b), some (.ref la), some (vN sh), some (.ref Z), some (.int (1 + (i : Int))), o5, o6] : L2.St) H2
    rw [ei]
    have hi1 : i + 1 < line.length := by omega
    have hlow := getD_at hi1
    -- what the turn leaves
    have fin : ∀ (ws' : List (Nat × Nat)) (H3 : Hp) (a : Nat) (o5 : Option V), WI b H Z ws' H3 → Good line ws' (i + 1) a → ws'.length ≤ 16 * (i + 1) →
        ∃ ws o4 o5' o6', WI b H Z ws H3 ∧ Good line ws (i + 1 + 1) 0 ∧ ws.length ≤ 16 * (i + 1) ∧ ([some (.ref b), some (.ref la), some (vN sh), some (.ref Z), some (vN (i + 1)), o5, o6] : L2.St) = [some (.ref b), some (.ref la), some (vN sh), some (.ref Z), o4, o5', o6'] :=
      fun ws' H3 a o5 x g w => ⟨ws', _, _, _, x, g.next, w, rfl⟩
    refine ⟨_, rfl, kc (eqN (y := 0) ⟨_, rfl, ?_⟩)⟩
    by_cases h0 : sh = 0
    · subst h0
      refine iteT ?_
      obtain ⟨as, z1, z2⟩ := x.at_
      refine r_app1 (i := 3) rfl z1 ?_
      refine ⟨_, rfl, _, rfl, kc (sbN (y := 1) (by omega) ?_)⟩
      refine ixl (x.bx.at hl) (getD_at (by omega : i + 1 - 1 < line.length)) ?_
      refine ⟨_, rfl, _, rfl, ixl (x.bx.at hl) hlow ?_⟩
      refine ⟨n_line (by show 2 ≤ _; decide), wi_app hb hZ0 x (by omega) fun H3 x3 => ?_⟩
      refine ⟨_, rfl, kc (eqN (y := 1) ⟨_, rfl, ?_⟩)⟩
      refine iteF (iteF ?_)
      refine ⟨_, rfl, kc (gtN (y := 2) ⟨_, rfl, ?_⟩)⟩
      refine iteF ?_
      exact fin _ H3 _ _ x3 (g.add nd (Nat.zero_le _) (by omega) (getD_at (by omega : i + 1 - 1 < line.length)) hlow) (by simp; omega)
    · rw [decide_eq_false h0]
      refine iteF ?_
      refine ⟨_, rfl, kc (eqN (y := 1) ⟨_, rfl, ?_⟩)⟩
      by_cases h1 : sh = 1
      · subst h1
        refine iteT ?_
        refine ⟨_, rfl, b, 4, rfl, x.bx.2, by decide, by decide, fun d H3 hd hx3 => ?_⟩
        have x3 := x.turn zb hx3
        refine kc (gtN (y := 0) ⟨_, rfl, ?_⟩)
        cases e : decide (0 < d) with
        | true =>
          refine iteT ?_
          obtain ⟨as, z1, z2⟩ := x3.at_
          refine r_app1 (i := 3) rfl z1 ?_
          refine ⟨_, rfl, _, rfl, _, rfl, b, _, rfl, x3.bx.2, by omega, by omega, fun a H4 ha hx4 => ?_⟩
          have x4 := x3.turn zb hx4
          have hal : a < line.length := by omega
          refine ixl (x4.bx.at hl) (getD_at hal) ?_
          refine ⟨_, rfl, _, rfl, ixl (x4.bx.at hl) hlow ?_⟩
          refine ⟨n_line (by show 2 ≤ _; decide), wi_app hb hZ0 x4 (by omega) fun H5 x5 => ?_⟩
          refine ⟨_, rfl, kc (gtN (y := 2) ⟨_, rfl, ?_⟩)⟩
          refine iteF ?_
          exact fin _ H5 _ _ x5 (g.add nd (Nat.zero_le _) (by omega) (getD_at hal) hlow) (by simp; omega)
        | false =>
          refine iteF ?_
          refine ⟨_, rfl, kc (gtN (y := 2) ⟨_, rfl, ?_⟩)⟩
          refine iteF ?_
          exact fin _ H3 _ _ x3 g (by omega)
      · rw [decide_eq_false h1]
        refine iteF (iteF ?_)
        refine ⟨_, rfl, kc (gtN (y := 2) ⟨_, rfl, ?_⟩)⟩
        by_cases h2 : 2 < sh
        · rw [decide_eq_true h2]
          refine iteT ?_
          refine ⟨_, rfl, _, rfl, by omega, by omega, for_range (lo := 0) (n := i + 1) (fun j σ H' => ∃ ws' o5, WI b H Z ws' H' ∧ Good line ws' (i + 1) j ∧ ws'.length ≤ 16 * i + j ∧ σ = [some (.ref b), some (.ref la), some (vN sh), some (.ref Z), some (vN (i + 1)), o5, o6]) ⟨ws, _, x, g, by omega, rfl⟩ ?_ ?_⟩
          · rintro j σ H3 hj ⟨ws3, p5, x3, g3, wl3, rfl⟩
            show tIfS _ _ _ _ ([some (.ref b), some (.ref la), some (vN sh), some (.ref Z), some (vN (i + 1)), some (.int (0 + (j : Int))), o6] : L2.St) H3
            rw [Int.zero_add]
            refine ⟨_, rfl, _, rfl, kc (sbN (y := 1) (by omega) ?_)⟩
            refine ⟨b, _, rfl, x3.bx.2, by omega, by omega, fun d H4 hd hx4 => ?_⟩
            have x4 := x3.turn zb hx4
            refine kc (eqN (y := 0) ⟨_, rfl, ?_⟩)
            cases e : decide (d = 0) with
            | true =>
              refine iteT ?_
              obtain ⟨as, z1, z2⟩ := x4.at_
              refine r_app1 (i := 3) rfl z1 ?_
              have hjl : j < line.length := by omega
              refine ⟨_, rfl, _, rfl, ixl (x4.bx.at hl) (getD_at hjl) ?_⟩
              refine ⟨_, rfl, _, rfl, ixl (x4.bx.at hl) hlow ?_⟩
              refine ⟨n_line (by show 2 ≤ _; decide), wi_app hb hZ0 x4 (by omega) fun H5 x5 => ?_⟩
              exact ⟨_, _, x5, g3.add nd (Nat.le_refl _) hj (getD_at hjl) hlow, by simp; omega, rfl⟩
            | false => exact iteF ⟨_, _, x4, g3.mono (Nat.le_succ _), by omega, rfl⟩
          · rintro σ H3 ⟨ws3, p5, x3, g3, wl3, rfl⟩
            exact fin _ H3 _ _ x3 g3 (by omega)
        · rw [decide_eq_false h2]
          exact iteF (fin _ H2 _ _ x g (by omega))
  · rintro σ H2 ⟨ws, o4, o5, o6, x, g, wl, rfl⟩
    obtain ⟨as, z1, z2⟩ := x.at_
    have wl2 : ws.length ≤ 256 := by omega
    refine ⟨_, rfl, ?_⟩
    refine r_lenL (i := 3) rfl z1 ?_
    rw [List.length_map, z2.1]
    refine kc (adN (y := 1) ?_)
    refine ⟨b, _, rfl, x.bx.2, by omega, by omega, fun cut H3 hcut hx3 => ?_⟩
    have x3 := x.turn zb hx3
    obtain ⟨as, z1, z2⟩ := x3.at_
    refine ⟨_, rfl, _, rfl, _, rfl, Z, _, rfl, SqL.of z1, fun A hA => ?_⟩
    rw [cut_from]
    have sA : Same H3 (upd H3 A (.lst ((as.map V.ref).drop cut))) := sm_new hA
    refine ⟨_, rfl, _, rfl, _, rfl, Z, _, rfl, SqL.of (sA _ _ z1), fun C hC => ?_⟩
    rw [cut_to]
    have sC : Same (upd H3 A (.lst ((as.map V.ref).drop cut))) (upd (upd H3 A (.lst ((as.map V.ref).drop cut))) C (.lst ((as.map V.ref).take cut))) := sm_new hC
    refine ⟨A, C, _, _, rfl, rfl, sC _ _ upd_same, upd_same, n_line ?_, fun p hp => ?_⟩
    · rw [List.length_drop, List.length_take, List.length_map, z2.1]
      omega
    · have sp := sA.trans (sC.trans (sm_new (o := .lst ((as.map V.ref).drop cut ++ (as.map V.ref).take cut)) hp))
      have bx := x3.bx.grow sp
      have pe : (ws.drop cut ++ ws.take cut).Perm ws := by
        have := List.perm_append_comm (l₁ := ws.drop cut) (l₂ := ws.take cut)
        rwa [List.take_append_drop] at this
      refine q p (ws.drop cut ++ ws.take cut) _ (g.ok.perm pe) (by rw [pe.length_eq]; exact wl2) bx ⟨as.drop cut ++ as.take cut, rm_of ?_ ((x3.bx.grow (sA.trans sC)).2.ne hp), ((z2.mono sp).box bx.2).drop cut |>.append (((z2.mono sp).box bx.2).take cut)⟩
      rw [upd_same, List.map_append, List.map_drop, List.map_take]

theorem p__law_plan {K : PySem.W.Frag} : ∀ vs H Q E, sp__law_plan K vs H Q E → vs.length = 1 ∧ t__law_plan K { nx := fun _ H' => Q .non H', rt := Q } (start N__law_plan vs) H := by
  rintro vs H Q E ⟨b, rfl, hb, q⟩
  refine ⟨rfl, ?_⟩
  -- the draws of the two sizes
  have pick : ∀ (H1 : Hp) (σ : L2.St) (k x y : Int) (R : VK), Bx b H H1 → σ[0]? = some (some (.ref b)) → 0 < x → x < 1000 → 0 < y → y < 1000 → (∀ (d : Nat) H2, ((d : Int) < x ∨ (d : Int) < y) → Bx b H H2 → R (.int (k + (d : Int))) H2) →
      tOp oAdd (tC (.int k)) (tCl (sp__law_take K) E0 (tCons (tVar 0) (tCons (tIf (tTest (tOp rEq (tCl (sp__law_take K) E0 (tCons (tVar 0) (tCons (tC (.int 8)) tNil))) (tC (.int 0)))) (tC (.int x)) (tC (.int y))) tNil))) σ H1 R := by
    intro H1 σ k x y R hx1 hσ x0 x1 y0 y1 hR
    refine ⟨_, hσ, _, hσ, b, 8, rfl, hx1.2, by decide, by decide, fun d H2 hd hx2 => ?_⟩
    refine kc (eqN (y := 0) ⟨_, rfl, ?_⟩)
    have b2 := hx1.trans hx2
    cases e : decide (d = 0) with
    | true => exact iteT ⟨b, x, rfl, b2.2, x0, by omega, fun d H3 hd hx3 => ⟨_, _, rfl, rfl, hR d H3 (.inl hd) (b2.trans hx3)⟩⟩
    | false => exact iteF ⟨b, y, rfl, b2.2, y0, by omega, fun d H3 hd hx3 => ⟨_, _, rfl, rfl, hR d H3 (.inr hd) (b2.trans hx3)⟩⟩
  refine (pick H _ 1 16 6 _ (Bx.refl hb) rfl (by decide) (by decide) (by decide) (by decide) fun d H1 hd hx1 => ?_)
  have e1 : V.int (1 + (d : Int)) = vN (d + 1) := by
    show _ = V.int ((d + 1 : Nat) : Int)
    rw [Int.add_comm]
    rfl
  show tSeq _ _ _ ([some (.ref b), some (.int (1 + (d : Int))), none, none, none] : L2.St) H1
  rw [e1]
  refine (pick H1 _ 2 9 3 _ hx1 rfl (by decide) (by decide) (by decide) (by decide) fun d' H2 hd' hx2 => ?_)
  refine ⟨_, rfl, _, rfl, b, d + 1, rfl, hx2.2, by omega, fun la line H3 pm hx3 hla hl3 => ?_⟩
  have x3 := hx2.trans hx3
  refine ⟨_, rfl, _, rfl, b, la, line, d + 1, rfl, x3.2, hl3, pm, by omega, by omega, fun wa ws H4 ok wl hx4 hw4 => ?_⟩
  have x4 := x3.trans hx4
  refine ⟨_, rfl, _, rfl, _, rfl, _, rfl, _, rfl, _, rfl, b, d + 1, _, rfl, x4.2, by omega, by omega, by omega, fun sa s H5 hx5 hs5 => ?_⟩
  have x5 := x4.trans hx5
  refine ⟨n_line (by show 4 ≤ _; decide), fun p hp => ?_⟩
  have sp : Same H5 (upd H5 p (.tup [.int (2 + (d' : Int)), .ref la, .ref wa, .ref sa])) := sm_new hp
  have x6 := x5.grow sp
  exact q p (d + 1) (2 + (d' : Int)) line ws s _ x6 ⟨⟨la, wa, sa, rm_new (x5.2.ne hp), rm_same sp _ _ (hx5.1 _ _ (hx4.1 _ _ hl3)), (hw4.mono hx5.1).mono (rm_same sp), hs5.mono (rm_same sp)⟩, pm, ok, wl, ⟨by omega, by omega⟩, ⟨by omega, by omega⟩⟩

theorem p__law_second {K : PySem.W.Frag} : ∀ vs H Q E, sp__law_second K vs H Q E → vs.length = 2 ∧ t__law_second K { nx := fun _ H' => Q .non H', rt := Q } (start N__law_second vs) H := by
  rintro vs H Q E ⟨b, p, n, h, line, ws, s, rfl, hb, ⟨⟨la, wa, sa, h1, h2, h3, h4⟩, pm, ok, wl, n16, h10⟩, q⟩
  refine ⟨rfl, ?_⟩
  refine ⟨_, rfl, b, 2, rfl, hb, by decide, by decide, fun d H1 hd hx1 => ?_⟩
  refine kc (eqN (y := 0) ⟨_, rfl, ?_⟩)
  cases e : decide (d = 0) with
  | true =>
    refine iteT ⟨_, rfl, b, rfl, hx1.2, fun p' n' h' line' ws' s' H2 hx2 pl => q p' n' h' line' ws' s' H2 (hx1.trans hx2) pl⟩
  | false =>
    refine iteF ?_
    obtain ⟨as, w1, w2⟩ := h3
    have p1 := hx1.at h1
    refine ⟨_, rfl, _, rfl, kc (ixT (i := 2) p1 rfl ?_)⟩
    refine ⟨_, _, rfl, .inl (SqL.of (hx1.at w1)), ?_⟩
    refine ⟨1, _, rfl, ?_⟩
    have mx : ∃ m : Nat, (if ((as.map V.ref).length : Int) > 1 then ((as.map V.ref).length : Int) else 1) = (m : Int) ∧ 0 < m ∧ m < 1000 := by
      have := w2.1
      rw [List.length_map]
      by_cases hc : (as.length : Int) > 1
      · rw [if_pos hc]
        exact ⟨_, rfl, by omega, by omega⟩
      · rw [if_neg hc]
        exact ⟨1, rfl, by omega, by omega⟩
    obtain ⟨m, em, m0, m1⟩ := mx
    rw [em]
    refine ⟨b, _, rfl, hx1.2, by omega, by omega, fun g H2 hg hx2 => ?_⟩
    have x2 := hx1.trans hx2
    have p2 := x2.at h1
    refine ⟨_, rfl, kc (ixT (i := 0) p2 rfl ?_)⟩
    refine ⟨_, rfl, kc (ixT (i := 1) p2 rfl ?_)⟩
    refine ⟨_, rfl, kc (ixT (i := 2) p2 rfl ?_)⟩
    refine ⟨_, rfl, _, rfl, wa, _, rfl, SqL.of (x2.at w1), fun A hA => ?_⟩
    rw [cut_to]
    have sA : Same H2 (upd H2 A (.lst ((as.map V.ref).take g))) := sm_new hA
    refine ⟨_, rfl, kc (ixT (i := 2) (sA _ _ p2) rfl ?_)⟩
    refine ⟨_, rfl, kc (adN (y := 1) ?_)⟩
    refine ⟨_, rfl, wa, _, rfl, SqL.of (sA _ _ (x2.at w1)), fun C hC => ?_⟩
    rw [cut_from]
    have sC : Same (upd H2 A (.lst ((as.map V.ref).take g))) (upd (upd H2 A (.lst ((as.map V.ref).take g))) C (.lst ((as.map V.ref).drop (g + 1)))) := sm_new hC
    refine ⟨A, C, _, _, rfl, rfl, sC _ _ upd_same, upd_same, n_line ?_, fun W hW => ?_⟩
    · have := w2.1
      rw [List.length_drop, List.length_take, List.length_map]
      omega
    · have sW := sA.trans (sC.trans (sm_new (o := .lst ((as.map V.ref).take g ++ (as.map V.ref).drop (g + 1))) hW))
      refine ⟨_, rfl, kc (ixT (i := 3) (sW _ _ p2) rfl ?_)⟩
      refine ⟨n_line (by show 4 ≤ _; decide), fun z hz => ?_⟩
      have sz := sW.trans (sm_new (o := .tup [.int h, .ref la, .ref W, .ref sa]) hz)
      have x3 := x2.grow sW
      have x4 := x2.grow sz
      have sub : (ws.take g ++ ws.drop (g + 1)).Sublist ws := by
        have := List.Sublist.append (List.Sublist.refl (ws.take g)) (List.drop_sublist_drop_left ws (Nat.le_succ g))
        rwa [List.take_append_drop] at this
      refine q z n h line (ws.take g ++ ws.drop (g + 1)) s _ x4 ⟨⟨la, W, sa, rm_new (x3.2.ne hz), x4.1 _ _ h2, ⟨as.take g ++ as.drop (g + 1), ?_, ((w2.mono x4.1).take g).append ((w2.mono x4.1).drop (g + 1))⟩, h4.mono x4.1⟩, pm, ok.sub sub, Nat.le_trans sub.length_le wl, n16, h10⟩
      have nW := (x2.grow (sA.trans sC)).2.ne hW
      refine rm_of ?_ nW
      rw [upd_ne (ne_of_none upd_same hz), upd_same, List.map_append, List.map_drop, List.map_take]
end Hue
end
section
set_option maxHeartbeats 4000000
namespace Hue
open PySem PySem.Spec PyProof.Rows L2
/-! ### paths along wires -/
theorem path_step {ws : List (Nat × Nat)} {x y : Nat} : Path ws x y ↔ ∃ w, (x, w) ∈ ws ∧ (y = w ∨ Path ws w y) := by
  constructor
  · rintro (h | ⟨h, t⟩)
    · exact ⟨_, h, .inl rfl⟩
    · exact ⟨_, h, .inr t⟩
  · rintro ⟨w, h, rfl | t⟩
    · exact .one h
    · exact .cons h t
theorem path_idx {line : List Nat} {ws : List (Nat × Nat)} (ok : WsOk line ws) {x y : Nat} (nd : line.Nodup) (p : Path ws x y) : ∃ i j : Nat, i < j ∧ line[i]? = some x ∧ line[j]? = some y := by
  induction p with
  | one h => exact ok.dn _ _ h
  | cons h t ih =>
    obtain ⟨i, j, h1, h2, h3⟩ := ok.dn _ _ h
    obtain ⟨k, m, h4, h5, h6⟩ := ih
    have := (List.getElem?_inj (lt_at h3) nd).mp (h3.trans h5.symm)
    exact ⟨i, m, by omega, h2, h6⟩
theorem bel_iff {ws : List (Nat × Nat)} {x y : Nat} : bel ws x y = true ↔ Path ws x y := by
  unfold bel
  simp
theorem bel_irr {line : List Nat} {ws : List (Nat × Nat)} (ok : WsOk line ws) (nd : line.Nodup) : ∀ w, bel ws w w = false := fun w => by
  cases e : bel ws w w with
  | false => rfl
  | true =>
    obtain ⟨i, j, h1, h2, h3⟩ := path_idx ok nd (bel_iff.mp e)
    have := (List.getElem?_inj (lt_at h2) nd).mp (h2.trans h3.symm)
    omega
theorem line_lt {line : List Nat} {n : Nat} (pm : line.Perm (List.range n)) {i x : Nat} (h : line[i]? = some x) : x < n := List.mem_range.mp (pm.mem_iff.mp (mem_at h))
theorem bel_bd {line : List Nat} {n : Nat} {ws : List (Nat × Nat)} (ok : WsOk line ws) (pm : line.Perm (List.range n)) : ∀ v w, bel ws v w = true → v < n ∧ w < n := fun v w h => by
  obtain ⟨i, j, h1, h2, h3⟩ := path_idx ok (pm.nodup_iff.mpr List.nodup_range) (bel_iff.mp h)
  exact ⟨line_lt pm h2, line_lt pm h3⟩

theorem Rows.put {H : Hp} {as : List Addr} {rows : List (List Nat)} (h : Rows H as rows) {x : Nat} {q : Addr} {r : List Nat} (hq : H q = some (.lst (vNs r))) : Rows H (as.set x q) (rows.set x r) := by
  refine ⟨by rw [List.length_set, List.length_set, h.1], fun i p s h1 h2 => ?_⟩
  rw [List.getElem?_set] at h1 h2
  by_cases e : x = i
  · subst e
    rw [if_pos rfl] at h1 h2
    by_cases hx : x < as.length
    · rw [if_pos hx] at h1
      rw [if_pos (by rw [← h.1]; exact hx)] at h2
      cases h1
      cases h2
      exact hq
    · rw [if_neg hx] at h1
      cases h1
  · rw [if_neg e] at h1 h2
    exact h.2 i p s h1 h2
theorem cnst_bl {n : Nat} {b : Bool} : (List.range n).filterMap (fun _ => some (V.bl b)) = tab n fun _ => V.bl b := by
  have e : (fun _ : Nat => some (V.bl b)) = some ∘ (fun _ => V.bl b) := rfl
  rw [e, List.filterMap_eq_map]
  rfl
/-- the row of an upper lamp, from the wires -/
noncomputable def knw (ws : List (Nat × Nat)) (u : Nat) (us : List (Nat × Nat)) (x : Nat) : Bool := us.any fun p => decide (p.1 = u) && (decide (x = p.2) || bel ws p.2 x)
theorem knw_bel {ws : List (Nat × Nat)} {u x : Nat} : knw ws u ws x = bel ws u x := by
  rw [Bool.eq_iff_iff, bel_iff, path_step]
  unfold knw
  rw [List.any_eq_true]
  constructor
  · rintro ⟨⟨a, w⟩, h1, h2⟩
    rw [Bool.and_eq_true, decide_eq_true_eq, Bool.or_eq_true, decide_eq_true_eq, bel_iff] at h2
    obtain ⟨h2, h3⟩ := h2
    cases h2
    exact ⟨w, h1, h3⟩
  · rintro ⟨w, h1, h2⟩
    refine ⟨(u, w), h1, ?_⟩
    rw [Bool.and_eq_true, decide_eq_true_eq, Bool.or_eq_true, decide_eq_true_eq, bel_iff]
    exact ⟨rfl, h2⟩
theorem knw_snoc {ws us : List (Nat × Nat)} {u x a w : Nat} : knw ws u (us ++ [(a, w)]) x = (knw ws u us x || (decide (a = u) && (decide (x = w) || bel ws w x))) := by
  unfold knw
  rw [List.any_append]
  simp

theorem p__law_below {K : PySem.W.Frag} : ∀ vs H Q E, sp__law_below K vs H Q E → vs.length = 2 ∧ t__law_below K { nx := fun _ H' => Q .non H', rt := Q } (start N__law_below vs) H := by
  rintro vs H Q E ⟨la, wa, line, n, ws, rfl, hl, pm, n16, ⟨was, hw1, hw2⟩, ok, q⟩
  refine ⟨rfl, ?_⟩
  have ln : line.length = n := by rw [pm.length_eq, List.length_range]
  have nd : line.Nodup := pm.nodup_iff.mpr List.nodup_range
  refine ⟨_, rfl, la, rfl, ⟨_, SqL.of hl⟩, fun D hD => lc_empty (walk_list (xs := vNs line)) (by rw [vNs_len]; omega) hD (fun _ sm => SqL.of (sm _ _ hl)) (fun _ _ _ _ y => y.1) (fun x H' Q h => h _ rfl) ?_⟩
  intro as H1 asl nda fr s1 hD1 he
  rw [vNs_len, ln] at asl
  refine ⟨_, rfl, la, vNs line, rfl, SqL.of (s1 _ _ hl), for_it walk_rev (fun i σ H' => ∃ (as : List Addr) (R : Nat → List Nat) (o2 o4 o5 o6 : Option V), (Same H H' ∧ H' D = some (.lst (as.map V.ref)) ∧ Rows H' as (tab n R) ∧ ∀ q ∈ as, H q = Option.none ∧ q ≠ D) ∧ (∀ k x, n - i ≤ k → line[k]? = some x → R x = belRow (bel ws) n x) ∧
    σ = [some (.ref la), some (.ref wa), o2, some (.ref D), o4, o5, o6]) ⟨as, fun _ => [], _, _, _, _, ⟨s1, hD1, rows_empty asl he, fun q hq => fr q hq⟩, fun k x hk hx => ?_, rfl⟩ (fun i σ H' _ p => ?_) ?_ ?_⟩
  · have := lt_at hx
    omega
  · obtain ⟨_, _, _, _, _, _, p, _⟩ := p
    exact SqL.of (p.1 _ _ hl)
  · rintro i x σ H2 H3 hi ⟨as2, R, o2, o4, o5, o6, ⟨s2, d2, R2, f2⟩, hR, rfl⟩ ⟨rfl, hx⟩
    rw [vNs_len] at hi hx
    obtain ⟨u, hu, rfl⟩ := of_vNs hx
    have un := line_lt pm hu
    rw [ln] at hu
    -- known
    refine ⟨_, rfl, la, rfl, ⟨_, SqL.of (s2 _ _ hl)⟩, fun Kn hKn => lc_fn (walk_list (xs := vNs line)) (fun _ => some (.bl false)) (by rw [vNs_len]; omega) hKn (fun _ sm => SqL.of (sm _ _ (s2 _ _ hl))) ?_ ?_⟩
    · rintro j y H4 H5 Qy Qn hj sm ⟨rfl, hy⟩ h1 h2
      exact ⟨rfl, yesT (h1 _ _ rfl (Same.refl _))⟩
    · intro H4 s4 hK4
      rw [vNs_len, ln, cnst_bl] at hK4
      have nKn : H Kn = Option.none := s2.free hKn
      have hDK : D ≠ Kn := ne_of_none d2 hKn
      have s24 := s2.trans s4
      have S : Same (rm Kn H4) H4 := rm_le _ _
      -- the wires
      refine ⟨_, rfl, wa, rfl, ⟨_, SqL.of (s24 _ _ hw1)⟩, for_list (xs := was.map V.ref) (fun j σ H' => ∃ o2 o6, Same (rm Kn H4) H' ∧ H' Kn = some (.lst (tab n fun x => V.bl (knw ws u (ws.take j) x))) ∧ σ = [some (.ref la), some (.ref wa), o2, some (.ref D), some (vN u), some (.ref Kn), o6])
        ⟨_, _, S, hK4, rfl⟩ (fun j σ H' _ p => ?_) ?_ ?_⟩
      · obtain ⟨_, _, p, _⟩ := p
        exact SqL.of (p _ _ (rm_of (s24 _ _ hw1) (ne_of_none hw1 nKn)))
      · rintro j y σ H5 hy ⟨p2, p6, s5, k5, rfl⟩
        have hjl : j < ws.length := by
          have := lt_at hy
          rwa [List.length_map, hw2.1] at this
        obtain ⟨⟨a, w⟩, haw⟩ := at_ex hjl
        obtain ⟨wp, e1, e2⟩ := hw2.get haw
        rw [List.getElem?_map, e1] at hy
        cases Option.some.inj hy
        have sH : Same H H5 := fun b o hb => s5 _ _ (rm_of (s24 _ _ hb) (ne_of_none hb nKn))
        refine ⟨_, rfl, kc (ixT (i := 0) (sH _ _ e2) rfl ?_)⟩
        refine ⟨_, rfl, eqN ⟨_, rfl, ?_⟩⟩
        obtain ⟨ia, iw, hlt, ha, hw⟩ := ok.dn a w (mem_at haw)
        have wn := line_lt pm hw
        by_cases hau : a = u
        · subst hau
          rw [decide_eq_true rfl]
          refine iteT ⟨_, rfl, _, rfl, kc (ixT (i := 1) (sH _ _ e2) rfl ?_)⟩
          refine stl k5 (by rw [tab_len]; exact wn) ?_
          rw [tab_set]
          -- the row beneath
          have ei : ia = n - 1 - i := (List.getElem?_inj (lt_at ha) nd).mp (ha.trans hu.symm)
          have hrow : R w = belRow (bel ws) n w := hR iw w (by omega) hw
          obtain ⟨rp, r1, r2⟩ := R2.get (tab_at wn)
          rw [hrow] at r2
          have s6 : Same (rm Kn H4) (upd H5 Kn (.lst (tab n fun y => if y = w then V.bl true else V.bl (knw ws a (ws.take j) y)))) := sm_mut s5 (by unfold rm; rw [if_pos rfl])
          have keep : ∀ (b : Addr) (o : HO), H3 b = some o → rm Kn H4 b = some o := fun b o hb => rm_of (s4 _ _ hb) (ne_of_none hb hKn)
          refine ⟨_, rfl, _, rfl, kc (ixT (i := 1) (s6 _ _ (keep _ _ (s2 _ _ e2))) rfl ?_)⟩
          refine ixL (s6 _ _ (keep _ _ d2)) (by rw [List.getElem?_map, r1]; rfl) ?_
          refine ⟨rp, rfl, ⟨_, SqL.of (s6 _ _ (keep _ _ r2))⟩, for_list (xs := vNs (belRow (bel ws) n w)) (fun m σ H' => ∃ o2, Same (rm Kn H4) H' ∧ H' Kn = some (.lst (tab n fun x => V.bl (knw ws a (ws.take j) x || (decide (x = w) || decide (x ∈ (belRow (bel ws) n w).take m))))) ∧ σ = [some (.ref la), some (.ref wa), o2, some (.ref D), some (vN a), some (.ref Kn), some (.ref wp)])
            ⟨_, s6, ?_, rfl⟩ (fun m σ H' _ p => ?_) ?_ ?_⟩
          · rw [upd_same]
            refine congrArg (fun z => some (HO.lst z)) (tab_congr fun y _ => ?_)
            by_cases e : y = w
            · rw [if_pos e, decide_eq_true e, Bool.true_or, Bool.or_true]
            · rw [if_neg e, decide_eq_false e]
              simp
          · obtain ⟨_, p, _⟩ := p
            exact SqL.of (p _ _ (keep _ _ r2))
          · rintro m y σ H6 hy ⟨p2', s6', k6, rfl⟩
            obtain ⟨v, hv, rfl⟩ := of_vNs hy
            have vn := (mem_belRow.mp (mem_at hv)).1
            refine ⟨_, rfl, _, rfl, stl k6 (by rw [tab_len]; exact vn) ?_⟩
            rw [tab_set]
            refine ⟨_, sm_mut s6' (by unfold rm; rw [if_pos rfl]), ?_, rfl⟩
            rw [upd_same, take_at hv]
            refine congrArg (fun z => some (HO.lst z)) (tab_congr fun y _ => ?_)
            by_cases e : y = v
            · subst e
              rw [if_pos rfl]
              simp
            · rw [if_neg e]
              simp [e]
          · rintro σ H6 ⟨p2', s6', k6, rfl⟩
            refine ⟨_, _, s6', ?_, rfl⟩
            rw [k6, vNs_len, List.take_length, take_at haw]
            refine congrArg (fun z => some (HO.lst z)) (tab_congr fun y hy => ?_)
            rw [knw_snoc, decide_eq_true rfl, Bool.true_and]
            have e : decide (y ∈ belRow (bel ws) n w) = bel ws w y := by
              rw [Bool.eq_iff_iff, decide_eq_true_eq, mem_belRow]
              exact ⟨fun h => h.2, fun h => ⟨hy, h⟩⟩
            rw [e]
        · rw [decide_eq_false hau]
          refine iteF ⟨_, _, s5, ?_, rfl⟩
          rw [k5, take_at haw]
          refine congrArg (fun z => some (HO.lst z)) (tab_congr fun y hy => ?_)
          rw [knw_snoc, decide_eq_false hau, Bool.false_and, Bool.or_false]
      · rintro σ H5 ⟨p2, p6, s5, k5, rfl⟩
        rw [List.length_map, hw2.1, List.take_length] at k5
        have sH : Same H H5 := fun b o hb => s5 _ _ (rm_of (s24 _ _ hb) (ne_of_none hb nKn))
        have keep : ∀ (b : Addr) (o : HO), H3 b = some o → H5 b = some o := fun b o hb => s5 _ _ (rm_of (s4 _ _ hb) (ne_of_none hb hKn))
        refine r_lenN (i := 0) rfl (sH _ _ hl) ?_
        rw [ln]
        refine ⟨_, rfl, by omega, by omega, fun Nw hNw => lc_fn (walk_range (lo := 0) (n := n)) (fun x => if bel ws u x = true then some (vN x) else none) (by omega) hNw (fun _ _ => trivial) ?_ ?_⟩
        · rintro x y H6 H7 Qy Qn hx sm ⟨rfl, rfl⟩ h1 h2
          refine ⟨rfl, ⟨_, rfl, .int (0 + (x : Int)), rfl, ?_⟩⟩
          rw [Int.zero_add]
          refine ixL (sm _ _ k5) (tab_at hx) ?_
          refine ⟨_, rfl, ?_⟩
          rw [knw_bel]
          cases e : bel ws u x with
          | true =>
            refine iteT ⟨.int (0 + (x : Int)), rfl, ?_⟩
            rw [Int.zero_add]
            exact h1 _ _ (if_pos e) (Same.refl _)
          | false => exact iteF (h2 _ (if_neg (by rw [e]; exact Bool.false_ne_true)) (Same.refl _))
        · intro H6 s6 hN6
          rw [fm_range] at hN6
          have nN : H Nw = Option.none := sH.free hNw
          have d6 : H6 D = some (.lst (as2.map V.ref)) := s6 _ _ (keep _ _ d2)
          refine ⟨_, rfl, _, rfl, stl d6 (by rw [List.length_map, R2.1, tab_len]; exact un) ?_⟩
          have R6 : Rows H6 as2 (tab n R) := ⟨R2.1, fun i p r h1 h2 => s6 _ _ (keep _ _ (R2.2 i p r h1 h2))⟩
          have R7 := R6.put (x := u) (r := belRow (bel ws) n u) hN6
          rw [tab_set] at R7
          have hDas : D ∉ as2.set u Nw := fun q => by
            rcases List.mem_or_eq_of_mem_set q with q | q
            · exact (f2 D q).2 rfl
            · rw [← q] at hNw
              rw [keep _ _ d2] at hNw
              cases hNw
          refine ⟨as2.set u Nw, _, _, _, _, _, ⟨sm_mut (sH.trans s6) hD, ?_, R7.off hDas, fun z hz => ?_⟩, fun k x hk hx => ?_, rfl⟩
          · rw [upd_same, List.map_set]
          · rcases List.mem_or_eq_of_mem_set hz with hz | rfl
            · exact f2 z hz
            · exact ⟨nN, fun q => by
                rw [q, keep _ _ d2] at hNw
                cases hNw⟩
          · by_cases e : x = u
            · rw [if_pos e, e]
            · rw [if_neg e]
              refine hR k x ?_ hx
              by_cases ek : k = n - 1 - i
              · subst ek
                rw [hu] at hx
                exact absurd (Option.some.inj hx).symm e
              · omega
  · rintro σ H2 ⟨as2, R, o2, o4, o5, o6, ⟨s2, d2, R2, f2⟩, hR, rfl⟩
    have e : tab n R = belRows (bel ws) n := tab_congr fun x hx => by
      have hm : x ∈ line := pm.mem_iff.mpr (List.mem_range.mpr hx)
      obtain ⟨k, hk⟩ := List.mem_iff_getElem?.mp hm
      exact hR k x (by rw [vNs_len, ln]; omega) hk
    rw [e] at R2
    exact ⟨_, rfl, q D as2 H2 hD (fun z hz => (f2 z hz).1) s2 d2 R2⟩

/-! ### the house, the world -/
def dW (ws : List (Nat × Nat)) : PyData := .list (ws.map fun p => dT [p.1, p.2])
theorem dp_ws {K : PySem.W.Frag} {H : Hp} : ∀ {as : List Addr} {ws : List (Nat × Nat)}, WRows H as ws → DpAll K H (as.map V.ref) (ws.map fun p => dT [p.1, p.2])
  | [], [], _ => .nil
  | [], _ :: _, h => by cases h.1
  | _ :: _, [], h => by cases h.1
  | a :: as, r :: rows, h => .cons (dp_T (h.2 0 a r rfl rfl)) (dp_ws ⟨by have := h.1; simpa using this, fun i p q a b => h.2 (i + 1) p q a b⟩)
theorem lay_ws : ∀ ws : List (Nat × Nat), PyData.canLayAll0 (ws.map fun p => dT [p.1, p.2]) = true
  | [] => by simp [PyData.canLayAll0]
  | r :: rows => by
    have h : (dT [r.1, r.2]).canLay0 = true := SeqAt.canLay_of_shaped (sh_T _)
    simp [PyData.canLayAll0, h, lay_ws rows]
theorem dep_ws : ∀ ws : List (Nat × Nat), PyData.depthAll (ws.map fun p => dT [p.1, p.2]) ≤ 3
  | [] => by simp [PyData.depthAll]
  | r :: rows => by
    have h1 := dep_ws rows
    have h2 : (dT [r.1, r.2]).depth ≤ 2 := by
      have := dep_ints [r.1, r.2]
      show PyData.depth (.tuple _) ≤ 2
      simp only [PyData.depth]
      omega
    simp only [List.map_cons, PyData.depthAll]
    omega
theorem sh_W (ws : List (Nat × Nat)) : SeqAt.shaped (dW ws) = true := by
  refine shaped_of ?_ ?_
  · show PyData.canLay0 (.list _) = true
    simp only [PyData.canLay0]
    exact lay_ws ws
  · show PyData.depth (.list _) ≤ 64
    have := dep_ws ws
    simp only [PyData.depth]
    omega
theorem eqW0 {K : PySem.W.Frag} {H : Hp} {p q : Addr} {ws : List (Nat × Nat)} {Q : VK} (h1 : WiresAt H p ws) (h2 : H q = some (.lst [])) (k : Q (.bl ws.isEmpty) H) : rEqD K (.ref p) (.ref q) H Q := by
  obtain ⟨as, h3, h4⟩ := h1
  refine ⟨dW ws, dN [], .lst (SqL.of h3) (dp_ws h4), dp_N h2, sh_W _, sh_N _, ?_⟩
  have e : PyData.eqv (dW ws) (dN []) = ws.isEmpty := by cases ws <;> rfl
  rw [e]
  exact k

theorem p__law_house {K : PySem.W.Frag} : ∀ vs H Q E, sp__law_house K vs H Q E → vs.length = 4 ∧ t__law_house K { nx := fun _ H' => Q .non H', rt := Q } (start N__law_house vs) H := by
  rintro vs H Q E ⟨b, a, n, h, line, ws, rfl, hb, hw, pm, ok, wl, n1, n16, h2, h10, q⟩
  refine ⟨rfl, ?_⟩
  refine ⟨_, rfl, Nat.zero_le _, fun z hz => ?_⟩
  have sz : Same H (upd H z (.lst [])) := sm_new hz
  have xz := (Bx.refl hb).new (o := .lst []) hz
  refine eqW0 (hw.mono ((rm_le b H).trans sz)) upd_same ⟨_, rfl, ?_⟩
  obtain ⟨as, w1, w2⟩ := hw
  have box : ∀ {H' : Hp}, BoxAt H' b → ∃ o, H' b = some o := fun h => h.some
  cases ws with
  | nil =>
    refine iteT ⟨_, rfl, _, rfl, n, h, rfl, n1, n16, h2, h10, fun p H' s' hh => ?_⟩
    obtain ⟨o, ho⟩ := xz.2.some
    exact q p H' (xz.grow s') (hh b o ho)
  | cons wx wy =>
    refine iteF ?_
    refine ⟨_, rfl, b, 2, rfl, xz.2, by decide, by decide, fun d H1 hd hx1 => ?_⟩
    have x1 := xz.trans hx1
    refine kc (eqN (y := 0) ⟨_, rfl, ?_⟩)
    have w3 := x1.at w1
    have w4 := w2.mono x1.1
    cases e : decide (d = 0) with
    | true =>
      refine iteT ⟨_, rfl, _, rfl, _, rfl, a, _, rfl, .inl ⟨SqL.of w3, fun t ht => ?_⟩⟩
      have x2 := x1.new (o := .tup (as.map V.ref)) ht
      refine ⟨n, h, t, as, line, _, rfl, ⟨.inr (SqT.of upd_same), (w2.mono x2.1).mono (rm_le _ _), pm, ok, wl, n1, n16, h2, h10⟩, fun p H' s' hh => ?_⟩
      obtain ⟨o, ho⟩ := x2.2.some
      exact q p H' (x2.grow s') (hh b o ho)
    | false =>
      refine iteF ⟨_, rfl, _, rfl, _, rfl, a, _, rfl, .inl (SqL.of w3), fun t ht => ?_⟩
      have x2 := x1.new (o := .lst (as.map V.ref)) ht
      refine ⟨n, h, t, as, line, _, rfl, ⟨.inl (SqL.of upd_same), (w2.mono x2.1).mono (rm_le _ _), pm, ok, wl, n1, n16, h2, h10⟩, fun p H' s' hh => ?_⟩
      obtain ⟨o, ho⟩ := x2.2.some
      exact q p H' (x2.grow s') (hh b o ho)

theorem p__law_world {K : PySem.W.Frag} : ∀ vs H Q E, sp__law_world K vs H Q E → vs.length = 2 ∧ t__law_world K { nx := fun _ H' => Q .non H', rt := Q } (start N__law_world vs) H := by
  rintro vs H Q E ⟨b, p, n, h, line, ws, s, rfl, hb, ⟨⟨la, wa, sa, h1, h2, h3, h4⟩, pm, ok, wl, n16, h10⟩, q⟩
  refine ⟨rfl, ?_⟩
  have ln : line.length = n := by rw [pm.length_eq, List.length_range]
  have p0 := rm_le _ _ _ _ h1
  refine ⟨_, rfl, _, rfl, kc (ixT (i := 1) p0 rfl ?_)⟩
  refine ⟨_, _, rfl, .inl (SqL.of (rm_le _ _ _ _ h2)), ?_⟩
  rw [vNs_len, ln]
  refine ⟨_, rfl, kc (ixT (i := 0) p0 rfl ?_)⟩
  refine ⟨_, rfl, kc (ixT (i := 2) p0 rfl ?_)⟩
  refine ⟨b, wa, n, h, line, ws, rfl, hb, h3, pm, ok, wl, n16.1, n16.2, h10.1, h10.2, fun ha H1 hx1 hh => ?_⟩
  have p1 := hx1.at h1
  refine ⟨_, rfl, _, rfl, kc (ixT (i := 0) p1 rfl ?_)⟩
  refine ⟨_, rfl, kc (ixT (i := 1) p1 rfl ?_)⟩
  refine ⟨_, rfl, kc (ixT (i := 2) p1 rfl ?_)⟩
  refine ⟨la, wa, line, n, ws, rfl, hx1.at h2, pm, n16.2, (h3.mono hx1.1).mono (rm_le _ _), ok, fun bl as H2 nbl nas s2 c1 c2 => ?_⟩
  have x2 := hx1.grow s2
  have p2 := x2.at h1
  refine ⟨_, rfl, kc (ixT (i := 3) p2 rfl ?_)⟩
  refine ⟨n_line (by show 4 ≤ _; decide), fun z hz => ?_⟩
  have sz : Same H2 (upd H2 z (.tup [.ref ha, .int h, .ref bl, .ref sa])) := sm_new hz
  have x3 := x2.grow sz
  have nb : ∀ z, H1 z = Option.none → z ≠ b := fun z hz => hx1.2.ne hz
  refine q z (bel ws) _ x3 ⟨⟨ha, bl, sa, rm_new (x2.2.ne hz), hh.mono (rm_same (s2.trans sz)), ⟨as, rm_of (sz _ _ c1) (nb _ nbl), c2.1, fun i a r a1 a2 => rm_of (sz _ _ (c2.2 i a r a1 a2)) (nb _ (nas a (mem_at a1)))⟩, h4.mono x3.1⟩, bel_irr ok (pm.nodup_iff.mpr List.nodup_range)⟩
end Hue
end
section
set_option maxHeartbeats 4000000
namespace Hue
open PySem PySem.Spec PyProof.Rows L2
theorem pa {te : TE} {g : TG} {u : TS} {D : L2.Ends} {σ : L2.St} {H : Hp} (q : te σ H fun x H1 => g x σ H1 (u D)) : tSeq (tAsg te g) u D σ H := q
theorem pr {te : TE} {D : L2.Ends} {σ : L2.St} {H : Hp} (q : te σ H D.rt) : tRet te D σ H := q
theorem pdr {te : TE} {D : L2.Ends} {σ : L2.St} {H : Hp} (q : te σ H fun _ H1 => D.nx σ H1) : tDrop te D σ H := q
theorem pas {te : TE} {g : TG} {D : L2.Ends} {σ : L2.St} {H : Hp} (q : te σ H fun x H1 => g x σ H1 D.nx) : tAsg te g D σ H := q
section
variable {K : PySem.W.Frag} {σ : L2.St} {H : Hp} {p bl : Addr} {i j k n : Nat} {l : List Nat} {B : Bel} {Q : VK}
/-- xs[:k] + [xs[k + 1], xs[k]] + xs[k + 2:] -/
theorem r_swapped (e1 : σ[i]? = some (some (.ref p))) (e2 : σ[j]? = some (some (vN k))) (h : H p = some (.lst (vNs l))) (hk : k + 1 < l.length) (hl : l.length ≤ 1000) (q : ∀ z H', H z = Option.none → Same H H' → H' z = some (.lst (vNs (swapAt k l))) → Q (.ref z) H') :
    (tOp rCat (tOp rCat (tSl (rSlL K) (tVar i) tNoPart (tPart (tVar j))) (tLst (tCons (tOp (rIxL K) (tVar i) (tOp oAdd (tVar j) (tC (.int 1)))) (tCons (tOp (rIxL K) (tVar i) (tVar j)) tNil)))) (tSl (rSlL K) (tVar i) (tPart (tOp oAdd (tVar j) (tC (.int 2)))) tNoPart)) σ H Q := by
  refine ⟨_, e1, _, e2, _, rfl, p, _, rfl, SqL.of h, fun a ha => ?_⟩
  rw [cut_to]
  have sa : Same H (upd H a (.lst ((vNs l).take k))) := sm_new ha
  refine ⟨_, e1, _, e2, kc (adN (y := 1) ?_)⟩
  refine ixl (sa _ _ h) (getD_at hk) ?_
  refine ⟨_, e1, _, e2, ixl (sa _ _ h) (getD_at (by omega : k < l.length)) ?_⟩
  refine ⟨n_line (by show 2 ≤ _; decide), fun c hc => ?_⟩
  have sc : Same (upd H a (.lst ((vNs l).take k))) (upd (upd H a (.lst ((vNs l).take k))) c (.lst [vN (l.getD (k + 1) 0), vN (l.getD k 0)])) := sm_new hc
  refine ⟨a, c, _, _, rfl, rfl, sc _ _ upd_same, upd_same, n_line (by rw [List.length_take]; simp; omega), fun d hd => ?_⟩
  have sd := sa.trans (sc.trans (sm_new (o := .lst ((vNs l).take k ++ [vN (l.getD (k + 1) 0), vN (l.getD k 0)])) hd))
  refine ⟨_, e1, _, e2, kc (adN (y := 2) ?_)⟩
  refine ⟨_, rfl, p, _, rfl, SqL.of (sd _ _ h), fun e he => ?_⟩
  rw [cut_from]
  have se := sd.trans (sm_new (o := .lst ((vNs l).drop (k + 2))) he)
  refine ⟨d, e, _, _, rfl, rfl, (sm_new he) _ _ upd_same, upd_same, n_line (by simp; omega), fun z hz => ?_⟩
  refine q z _ (se.free hz) (se.trans (sm_new hz)) ?_
  rw [upd_same]
  refine congrArg (fun z => some (HO.lst z)) ?_
  unfold swapAt vNs
  rw [List.map_append, List.map_cons, List.map_cons, List.map_take, List.map_drop, List.append_assoc]
  rfl
/-- apart(below, xs[k], xs[k + 1]) -/
theorem r_apart2 {b0 : Nat} (e0 : σ[b0]? = some (some (.ref bl))) (e1 : σ[i]? = some (some (.ref p))) (e2 : σ[j]? = some (some (vN k))) (hb : LLat H bl (belRows B n)) (h : H p = some (.lst (vNs l))) (hk : k + 1 < l.length) (hl : ∀ x ∈ l, x < n) (q : Q (.bl (apart B (l.getD k 0) (l.getD (k + 1) 0))) H) :
    (tCl (sp__law_apart K) E0 (tCons (tVar b0) (tCons (tOp (rIxL K) (tVar i) (tVar j)) (tCons (tOp (rIxL K) (tVar i) (tOp oAdd (tVar j) (tC (.int 1)))) tNil)))) σ H Q := by
  refine ⟨_, e0, _, e1, _, e2, ixl h (getD_at (by omega : k < l.length)) ?_⟩
  refine ⟨_, e1, _, e2, kc (adN (y := 1) ?_)⟩
  refine ixl h (getD_at hk) ?_
  exact ⟨bl, _, _, B, n, rfl, hb, hl _ (mem_getD (by omega)), hl _ (mem_getD hk), q⟩
end

theorem p__law_neighbours {K : PySem.W.Frag} : ∀ vs H Q E, sp__law_neighbours K vs H Q E → vs.length = 2 ∧ t__law_neighbours K { nx := fun _ H' => Q .non H', rt := Q } (start N__law_neighbours vs) H := by
  rintro vs H Q E ⟨bl, r, l, B, n, rfl, hb, hr, hl, hl2, q⟩
  refine ⟨rfl, ?_⟩
  refine ⟨Nat.zero_le _, fun Z hZ => ?_⟩
  have sZ : Same H (upd H Z (.lst [])) := sm_new hZ
  refine r_lenN (i := 1) rfl (sZ _ _ hr) ?_
  refine ⟨_, _, rfl, rfl, _, rfl, by omega, by omega, for_range (lo := 0) (n := ((l.length : Int) - 1).toNat) (fun i σ H' => ∃ as o, (Same H H' ∧ H' Z = some (.lst (as.map V.ref)) ∧ Rows H' as (nbTo B l i)) ∧ (∀ p ∈ as, H p = Option.none ∧ p ≠ Z) ∧ σ = [some (.ref bl), some (.ref r), some (.ref Z), o]) ⟨[], _, ⟨sZ, upd_same, rfl, fun i p r h1 h2 => by simp at h1⟩, fun p hp => by simp at hp, rfl⟩ ?_ ?_⟩
  · rintro i σ H2 hi ⟨as, o, ⟨s2, z2, R2⟩, fr, rfl⟩
    show tIfS _ _ _ _ ([some (.ref bl), some (.ref r), some (.ref Z), some (.int (0 + (i : Int)))] : L2.St) H2
    rw [Int.zero_add]
    have hi1 : i + 1 < l.length := by omega
    refine r_apart2 (b0 := 0) (i := 1) (j := 3) rfl rfl rfl (hb.mono s2) (s2 _ _ hr) hi1 hl ?_
    refine ⟨_, rfl, ?_⟩
    cases e : apart B (l.getD i 0) (l.getD (i + 1) 0) with
    | false => exact iteF ⟨as, _, ⟨s2, z2, by rw [nbTo_succ, e, if_neg Bool.false_ne_true, List.append_nil]; exact R2⟩, fr, rfl⟩
    | true =>
      refine iteT ?_
      refine r_app1 (i := 2) rfl z2 ?_
      refine r_swapped (i := 1) (j := 3) rfl rfl (s2 _ _ hr) hi1 hl2 fun z H3 hz s3 hz3 => ?_
      refine apL (s3 _ _ z2) (by rw [List.length_map, R2.1]; have := @nbTo_len B l i; omega) ?_
      have hzZ : z ≠ Z := Ne.symm (ne_of_none z2 hz)
      refine ⟨as ++ [z], _, ⟨sm_mut (s2.trans s3) hZ, by rw [upd_same]; simp, ?_⟩, fun p hp => ?_, rfl⟩
      · rw [nbTo_succ, e, if_pos rfl]
        refine Rows.off (rows_app R2 s3 hz3) fun q => ?_
        rcases List.mem_append.mp q with q | q
        · exact (fr Z q).2 rfl
        · exact hzZ (List.mem_singleton.mp q).symm
      · rcases List.mem_append.mp hp with hp | hp
        · exact fr p hp
        · have e : p = z := by simpa using hp
          subst e
          exact ⟨s2.free hz, hzZ⟩
  · rintro σ H2 ⟨as, o, ⟨s2, z2, R2⟩, fr, rfl⟩
    have e : nbTo B l ((l.length : Int) - 1).toNat = nbrs B l := by
      have e : ((l.length : Int) - 1).toNat = l.length - 1 := by omega
      rw [e]
      rfl
    rw [e] at R2
    exact ⟨_, rfl, q Z as H2 hZ (fun p hp => (fr p hp).1) s2 z2 R2⟩

theorem in_pair {K : PySem.W.Frag} {H : Hp} {p : Addr} {x u w : Nat} {Q : VK} (h : H p = some (.tup [vN u, vN w])) (q : Q (.bl (x == u || x == w)) H) : rIn K false (vN x) (.ref p) H Q :=
  isin (l := [u, w]) h (by
    have e : decide (x ∈ [u, w]) = (x == u || x == w) := by
      rw [Bool.eq_iff_iff, decide_eq_true_eq, Bool.or_eq_true, beq_iff_eq, beq_iff_eq]
      simp
    rw [e]
    exact q)
theorem agB_iff {B : Bel} {n : Nat} {l m : List Nat} : agB B n l m = true ↔ ∀ x, x < n → ∀ y, y ≤ x → apart B x y = true ∨ kp x y l = kp x y m := by
  unfold agB
  rw [List.all_eq_true]
  constructor
  · intro h x hx y hy
    have := List.all_eq_true.mp (h x (List.mem_range.mpr hx)) y (List.mem_range.mpr (by omega))
    rw [Bool.or_eq_true, decide_eq_true_eq] at this
    exact this
  · intro h x hx
    rw [List.all_eq_true]
    intro y hy
    rw [Bool.or_eq_true, decide_eq_true_eq]
    have := List.mem_range.mp hy
    exact h x (List.mem_range.mp hx) y (by omega)
/-- [x for x in xs if x in (u, w)] -/
theorem r_kept {K : PySem.W.Frag} {σ : L2.St} {H : Hp} {r : Addr} {l : List Nat} {a i j k u w : Nat} {Q : VK} (e0 : σ[a]? = some (some (.ref r))) (ei : ∀ v, (List.set (wipe σ [k]) k v)[i]? = some (some (vN u))) (ej : ∀ v, (List.set (wipe σ [k]) k v)[j]? = some (some (vN w))) (ek : ∀ v, (List.set (wipe σ [k]) k (some v))[k]? = some (some v)) (ew : ∀ v, wipe (List.set (wipe σ [k]) k v) [k] = wipe σ [k])
    (hr : H r = some (.lst (vNs l))) (hl : l.length ≤ 1000) (q : ∀ z H', H z = Option.none → Same H H' → H' z = some (.lst (vNs (kp u w l))) → Q (.ref z) H') :
    (tLc (iList K (tVar a)) (gName k) (tTest (tOp (rIn K false) (tVar k) (tTup (tCons (tVar i) (tCons (tVar j) tNil))))) (tVar k) [k]) σ H Q := by
  refine ⟨_, e0, r, rfl, ⟨_, SqL.of hr⟩, fun D hD => lc_fn (walk_list (xs := vNs l)) (fun i => (l[i]?).bind fun z => if (z == u || z == w) = true then some (vN z) else none) (by rw [vNs_len]; omega) hD (fun _ sm => SqL.of (sm _ _ hr)) ?_ ?_⟩
  · rintro m z H1 H2 Qy Qn hm sm ⟨rfl, hz⟩ h1 h2
    obtain ⟨v, hv, rfl⟩ := of_vNs hz
    refine ⟨ew _, ⟨_, ek _, _, ei _, _, ej _, ⟨n_line (by show 2 ≤ _; decide), fun t ht => ?_⟩⟩⟩
    refine in_pair upd_same ⟨_, rfl, ?_⟩
    cases e : (v == u || v == w) with
    | true => exact iteT ⟨_, ek _, h1 _ _ (by show (l[m]?).bind _ = _; rw [hv]; exact if_pos e) (sm_new ht)⟩
    | false => exact iteF (h2 _ (by show (l[m]?).bind _ = _; rw [hv]; exact if_neg (by rw [e]; exact Bool.false_ne_true)) (sm_new ht))
  · intro H1 sm hc
    rw [vNs_len, fm_list] at hc
    exact q D H1 hD sm hc

theorem p__law_agree {K : PySem.W.Frag} : ∀ vs H Q E, sp__law_agree K vs H Q E → vs.length = 3 ∧ t__law_agree K { nx := fun _ H' => Q .non H', rt := Q } (start N__law_agree vs) H := by
  rintro vs H Q E ⟨bl, r1, r2, l, m, B, n, rfl, hb, h1, h2, hl, hm, n16, q⟩
  refine ⟨rfl, ?_⟩
  have hb' := hb
  obtain ⟨as, b1, b2⟩ := hb'
  refine r_lenL (i := 0) rfl b1 ?_
  rw [List.length_map, b2.1, belRows_len]
  refine ⟨_, rfl, by omega, by omega, for_range (lo := 0) (n := n) (fun i σ H' => Same H H' ∧ (∃ o3 o4 o5 o6, σ = [some (.ref bl), some (.ref r1), some (.ref r2), o3, o4, o5, o6]) ∧ ∀ x, x < i → ∀ y, y ≤ x → apart B x y = true ∨ kp x y l = kp x y m) ⟨Same.refl _, ⟨_, _, _, _, rfl⟩, fun x hx => by omega⟩ ?_ ?_⟩
  · rintro i σ H1 hi ⟨s1, ⟨o3, o4, o5, o6, rfl⟩, hk⟩
    show tFor _ _ _ _ ([some (.ref bl), some (.ref r1), some (.ref r2), some (.int (0 + (i : Int))), o4, o5, o6] : L2.St) H1
    rw [Int.zero_add]
    refine ⟨_, rfl, kc (adN (y := 1) ?_)⟩
    refine ⟨_, rfl, by omega, by omega, for_range (lo := 0) (n := i + 1) (fun j σ H' => Same H H' ∧ (∃ o4 o5 o6, σ = [some (.ref bl), some (.ref r1), some (.ref r2), some (vN i), o4, o5, o6]) ∧ ∀ y, y < j → apart B i y = true ∨ kp i y l = kp i y m) ⟨s1, ⟨_, _, _, rfl⟩, fun y hy => by omega⟩ ?_ ?_⟩
    · rintro j σ H2 hj ⟨s2, ⟨p4, p5, p6, rfl⟩, hk2⟩
      show tIfS _ _ _ _ ([some (.ref bl), some (.ref r1), some (.ref r2), some (vN i), some (.int (0 + (j : Int))), p5, p6] : L2.St) H2
      rw [Int.zero_add]
      have nxt' : ∀ (H3 : Hp) (o5 : Option V), Same H H3 → (apart B i j = true ∨ kp i j l = kp i j m) → Same H H3 ∧ (∃ o4 o5' o6, ([some (.ref bl), some (.ref r1), some (.ref r2), some (vN i), some (vN j), o5, p6] : L2.St) = [some (.ref bl), some (.ref r1), some (.ref r2), some (vN i), o4, o5', o6]) ∧ ∀ y, y < j + 1 → apart B i y = true ∨ kp i y l = kp i y m := fun H3 o5 s3 h => ⟨s3, ⟨_, _, _, rfl⟩, fun y hy => by
        rcases Nat.lt_succ_iff_lt_or_eq.mp hy with hy | rfl
        · exact hk2 y hy
        · exact h⟩
      refine ⟨_, rfl, _, rfl, _, rfl, bl, i, j, B, n, rfl, hb.mono s2, hi, by omega, ?_⟩
      refine ⟨_, rfl, ?_⟩
      cases e : apart B i j with
      | true => exact iteF (nxt' H2 _ s2 (.inl e))
      | false =>
        refine iteT ?_
        refine pa ?_
        refine r_kept (σ := [some (.ref bl), some (.ref r1), some (.ref r2), some (vN i), some (vN j), p5, p6]) (a := 1) (i := 3) (j := 4) (k := 6) (u := i) (w := j) rfl ?_ ?_ ?_ ?_ (s2 _ _ h1) hl fun z1 H3 hz1 s3 e3 => ?_
        · intro _
          rfl
        · intro _
          rfl
        · intro _
          rfl
        · intro _
          rfl
        refine ⟨_, rfl, ?_⟩
        refine r_kept (σ := [some (.ref bl), some (.ref r1), some (.ref r2), some (vN i), some (vN j), some (.ref z1), p6]) (a := 2) (i := 3) (j := 4) (k := 6) (u := i) (w := j) rfl ?_ ?_ ?_ ?_ (s3 _ _ (s2 _ _ h2)) hm fun z2 H4 hz2 s4 e4 => ?_
        · intro _
          rfl
        · intro _
          rfl
        · intro _
          rfl
        · intro _
          rfl
        refine neD (s4 _ _ e3) e4 ⟨_, rfl, ?_⟩
        by_cases hkk : kp i j l = kp i j m
        · rw [decide_eq_true hkk]
          exact iteF (nxt' H4 _ (s2.trans (s3.trans s4)) (.inr hkk))
        · rw [decide_eq_false hkk]
          refine iteT ?_
          have e5 : agB B n l m = false := by
            cases e5 : agB B n l m with
            | false => rfl
            | true =>
              rcases agB_iff.mp e5 i hi j (by omega) with h | h
              · rw [e] at h
                cases h
              · exact absurd h hkk
          have := q H4 (s2.trans (s3.trans s4))
          rwa [e5] at this
    · rintro σ H2 ⟨s2, ⟨p4, p5, p6, rfl⟩, hk2⟩
      refine ⟨s2, ⟨_, _, _, _, rfl⟩, fun x hx y hy => ?_⟩
      rcases Nat.lt_succ_iff_lt_or_eq.mp hx with hx | rfl
      · exact hk x hx y hy
      · exact hk2 y (by omega)
  · rintro σ H1 ⟨s1, _, hk⟩
    have e : agB B n l m = true := agB_iff.mpr hk
    have := q H1 s1
    rwa [e] at this

theorem p__law_shuffled {K : PySem.W.Frag} : ∀ vs H Q E, sp__law_shuffled K vs H Q E → vs.length = 3 ∧ t__law_shuffled K { nx := fun _ H' => Q .non H', rt := Q } (start N__law_shuffled vs) H := by
  rintro vs H Q E ⟨b, bl, r, l, B, n, rfl, hb, hbl, hr, hl, hl2, q⟩
  refine ⟨rfl, ?_⟩
  refine r_listL (i := 2) rfl (rm_le _ _ _ _ hr) fun Z hZ => ?_
  have x0 := (Bx.refl hb).new (o := .lst (vNs l)) hZ
  refine ⟨_, rfl, b, 4, rfl, x0.2, by decide, by decide, fun d H1 hd hx1 => ?_⟩
  have x1 := x0.trans hx1
  have z1 : rm b H1 Z = some (.lst (vNs l)) := hx1.rat (rm_new (hb.ne hZ))
  refine ⟨_, rfl, by omega, by omega, for_range (lo := 0) (n := d) (fun i σ H' => ∃ m F o4 o5, Agree B l m ∧ Bx b H H' ∧ rm b H' F = some (.lst (vNs m)) ∧ σ = [some (.ref b), some (.ref bl), some (.ref r), some (.ref F), o4, o5]) ⟨l, Z, _, _, .refl B l, x1, z1, rfl⟩ ?_ ?_⟩
  · rintro i σ H2 hi ⟨m, F, o4, o5, ag, x2, f2, rfl⟩
    refine r_lenN (i := 3) rfl (rm_le _ _ _ _ f2) ?_
    have em := ag.length
    refine ⟨_, _, rfl, rfl, _, rfl, by omega, by omega, for_range (lo := 0) (n := ((m.length : Int) - 1).toNat) (fun k σ H' => ∃ m' F o4 o5, Agree B l m' ∧ Bx b H H' ∧ rm b H' F = some (.lst (vNs m')) ∧ σ = [some (.ref b), some (.ref bl), some (.ref r), some (.ref F), o4, o5]) ⟨m, F, _, _, ag, x2, f2, rfl⟩ ?_ ?_⟩
    · rintro k σ H3 hk ⟨m', F', p4, p5, ag', x3, f3, rfl⟩
      show tIfS _ _ _ _ ([some (.ref b), some (.ref bl), some (.ref r), some (.ref F'), p4, some (.int (0 + (k : Int)))] : L2.St) H3
      rw [Int.zero_add]
      have em' := ag'.length
      have hk1 : k + 1 < m'.length := by omega
      have hm' : ∀ x ∈ m', x < n := fun x hx => hl x ((ag'.mem x).mpr hx)
      refine r_apart2 (b0 := 1) (i := 3) (j := 5) rfl rfl rfl ((hbl.mono x3.1).mono (rm_le _ _)) (rm_le _ _ _ _ f3) hk1 hm' ?_
      refine ⟨_, rfl, ?_⟩
      cases e : apart B (m'.getD k 0) (m'.getD (k + 1) 0) with
      | false => exact iteF (iteF ⟨m', F', _, _, ag', x3, f3, rfl⟩)
      | true =>
        refine iteT ?_
        refine ⟨_, rfl, b, 2, rfl, x3.2, by decide, by decide, fun d4 H4 hd4 hx4 => ?_⟩
        refine kc (eqN (y := 0) ⟨_, rfl, ?_⟩)
        have x4 := x3.trans hx4
        cases e4 : decide (d4 = 0) with
        | false => exact iteF ⟨m', F', _, _, ag', x4, hx4.rat f3, rfl⟩
        | true =>
          refine iteT ?_
          refine r_swapped (i := 3) (j := 5) rfl rfl (hx4.at f3) hk1 (by omega) fun z H5 hz s5 hz5 => ?_
          have sw : Sw B m' (swapAt k m') := mem_nbrs.mp (by
            unfold nbrs
            exact List.mem_map.mpr ⟨k, List.mem_filter.mpr ⟨List.mem_range.mpr (by omega), e⟩, rfl⟩)
          exact ⟨_, z, _, _, ag'.trans sw.agree, x4.grow s5, rm_of hz5 (x4.2.ne hz), rfl⟩
    · rintro σ H3 ⟨m', F', p4, p5, ag', x3, f3, rfl⟩
      exact ⟨m', F', _, _, ag', x3, f3, rfl⟩
  · rintro σ H2 ⟨m, F, o4, o5, ag, x2, f2, rfl⟩
    exact ⟨_, rfl, q F m H2 ag x2 f2⟩

section
variable {K : PySem.W.Frag} {σ : L2.St} {H : Hp} {p : Addr} {i j k : Nat} {l : List Nat} {Q : VK}
/-- xs[:k] -/
theorem r_to (e1 : σ[i]? = some (some (.ref p))) (e2 : σ[j]? = some (some (vN k))) (h : H p = some (.lst (vNs l))) (q : ∀ z, H z = Option.none → Q (.ref z) (upd H z (.lst (vNs (l.take k))))) : tSl (rSlL K) (tVar i) tNoPart (tPart (tVar j)) σ H Q :=
  ⟨_, e1, _, e2, _, rfl, p, _, rfl, SqL.of h, fun z hz => by
    rw [cut_to]
    have := q z hz
    unfold vNs at this ⊢
    rwa [List.map_take] at this⟩
/-- xs[k:] -/
theorem r_from (e1 : σ[i]? = some (some (.ref p))) (e2 : σ[j]? = some (some (vN k))) (h : H p = some (.lst (vNs l))) (q : ∀ z, H z = Option.none → Q (.ref z) (upd H z (.lst (vNs (l.drop k))))) : tSl (rSlL K) (tVar i) (tPart (tVar j)) tNoPart σ H Q :=
  ⟨_, e1, _, e2, _, rfl, p, _, rfl, SqL.of h, fun z hz => by
    rw [cut_from]
    have := q z hz
    unfold vNs at this ⊢
    rwa [List.map_drop] at this⟩
/-- xs[k + c:] -/
theorem r_fromC {c : Nat} (e1 : σ[i]? = some (some (.ref p))) (e2 : σ[j]? = some (some (vN k))) (h : H p = some (.lst (vNs l))) (q : ∀ z, H z = Option.none → Q (.ref z) (upd H z (.lst (vNs (l.drop (k + c)))))) : tSl (rSlL K) (tVar i) (tPart (tOp oAdd (tVar j) (tC (.int (c : Int))))) tNoPart σ H Q := by
  refine ⟨_, e1, _, e2, kc (adN (y := c) ?_)⟩
  refine ⟨_, rfl, p, _, rfl, SqL.of h, fun z hz => ?_⟩
  rw [cut_from]
  have := q z hz
  unfold vNs at this ⊢
  rwa [List.map_drop] at this
theorem catN {a c : Addr} {xs ys : List Nat} (h1 : H a = some (.lst (vNs xs))) (h2 : H c = some (.lst (vNs ys))) (hl : xs.length + ys.length ≤ 10000) (q : ∀ z, H z = Option.none → Q (.ref z) (upd H z (.lst (vNs (xs ++ ys))))) : rCat (.ref a) (.ref c) H Q :=
  ⟨a, c, _, _, rfl, rfl, h1, h2, n_line (by rw [vNs_len, vNs_len]; omega), fun z hz => by
    have := q z hz
    unfold vNs at this ⊢
    rwa [List.map_append] at this⟩
end
end Hue
end
section
set_option maxHeartbeats 4000000
namespace Hue
open PySem PySem.Spec PyProof.Rows L2

/-! ### the law's sorted form -/
/-- the place p of m is ready -/
def RP (B : Bel) (m : List Nat) (p : Nat) : Bool := (m.take p).all fun a => apart B a (m.getD p 0)
def rdy (B : Bel) (m : List Nat) (j x : Nat) : Bool := (m.take j).all fun a => apart B a x
theorem rdy_succ {B : Bel} {m : List Nat} {j x a : Nat} (h : m[j]? = some a) : rdy B m (j + 1) x = (rdy B m j x && apart B a x) := by
  unfold rdy
  rw [take_at h, List.all_append]
  simp
theorem ready_RP {B : Bel} {m : List Nat} {x : Nat} : ready B m x = true ↔ ∃ p, m[p]? = some x ∧ RP B m p = true := by
  rw [ready_iff]
  constructor
  · rintro ⟨p, s, rfl, h⟩
    refine ⟨p.length, by simp, ?_⟩
    unfold RP
    rw [List.all_eq_true, getD_mid, List.take_left' rfl]
    exact h
  · rintro ⟨p, h1, h2⟩
    refine ⟨m.take p, m.drop (p + 1), ?_, fun a ha => ?_⟩
    · rw [← drop_at h1, List.take_append_drop]
    · have e : m.getD p 0 = x := by rw [List.getD_eq_getElem?_getD, h1]; rfl
      have := List.all_eq_true.mp h2 a ha
      rwa [e] at this
theorem erase_RP {B : Bel} {m : List Nat} {p x : Nat} (h1 : m[p]? = some x) (h2 : RP B m p = true) : m.erase x = m.take p ++ m.drop (p + 1) := by
  have e : m.getD p 0 = x := by rw [List.getD_eq_getElem?_getD, h1]; rfl
  have hm : m = m.take p ++ x :: m.drop (p + 1) := by rw [← drop_at h1, List.take_append_drop]
  have := erase_split (B := B) (x := x) (p := m.take p) (s := m.drop (p + 1)) fun a ha => by
    have := List.all_eq_true.mp h2 a ha
    rwa [e] at this
  rw [← hm] at this
  exact this
/-- the best place so far -/
def Best (B : Bel) (m : List Nat) (j : Nat) : Option Nat → Prop
  | none => ∀ p, p < j → RP B m p = false
  | some p => p < j ∧ RP B m p = true ∧ ∀ p', p' < j → RP B m p' = true → m.getD p 0 ≤ m.getD p' 0
theorem best_nxt {B : Bel} {n : Nat} {m : List Nat} (hm : ∀ x ∈ m, x < n) (hne : 0 < m.length) {o : Option Nat} (h : Best B m m.length o) : ∃ p, o = some p ∧ p < m.length ∧ nxt B n m = some (m.getD p 0) ∧ RP B m p = true := by
  cases o with
  | none =>
    have := h 0 hne
    exfalso
    unfold RP at this
    simp at this
  | some p =>
    obtain ⟨h1, h2, h3⟩ := h
    refine ⟨p, rfl, h1, nxt_some.mpr ⟨ready_RP.mpr ⟨p, getD_at h1, h2⟩, hm _ (mem_getD h1), fun y hy => ?_⟩, h2⟩
    cases e : ready B m y with
    | false => rfl
    | true =>
      obtain ⟨p', e1, e2⟩ := ready_RP.mp e
      have := h3 p' (lt_at e1) e2
      have e3 : m.getD p' 0 = y := by rw [List.getD_eq_getElem?_getD, e1]; rfl
      omega
def bV : Option Nat → V
  | none => .int (-1)
  | some p => vN p
theorem tab_bl_set {n v : Nat} {f : Nat → Bool} {b : Bool} : (tab n fun i => V.bl (f i)).set v (V.bl b) = tab n fun i => V.bl (if i = v then b else f i) := by
  rw [tab_set]
  refine tab_congr fun x _ => ?_
  by_cases e : x = v
  · rw [if_pos e, if_pos e]
  · rw [if_neg e, if_neg e]

theorem p__law_sorted {K : PySem.W.Frag} : ∀ vs H Q E, sp__law_sorted K vs H Q E → vs.length = 2 ∧ t__law_sorted K { nx := fun _ H' => Q .non H', rt := Q } (start N__law_sorted vs) H := by
  rintro vs H Q E ⟨bl, r, l, B, n, rfl, hb, hr, hl, hl2, n16, q⟩
  refine ⟨rfl, ?_⟩
  have hb' := hb
  obtain ⟨bs, b1, b2⟩ := hb'
  have bn : (bs.map V.ref).length = n := by rw [List.length_map, b2.1, belRows_len]
  refine r_listL (i := 1) rfl hr fun L0 hL0 => ?_
  have s0 : Same H (upd H L0 (.lst (vNs l))) := sm_new hL0
  refine ⟨Nat.zero_le _, fun Z hZ => ?_⟩
  have nZ : H Z = Option.none := s0.free hZ
  have sZ : Same (upd H L0 (.lst (vNs l))) (upd (upd H L0 (.lst (vNs l))) Z (.lst [])) := sm_new hZ
  refine r_lenN (i := 1) rfl (sZ _ _ (s0 _ _ hr)) ?_
  refine ⟨_, rfl, by omega, by omega, for_range (lo := 0) (n := l.length) (fun i σ H' => ∃ m f L o4 o5 o6 o7 o8, (Same H H' ∧ H' Z = some (.lst (vNs f)) ∧ H' L = some (.lst (vNs m)) ∧ L ≠ Z) ∧ (m.length + i = l.length ∧ f.length = i ∧ (∀ x ∈ m, x < n) ∧ f ++ sfN B n m.length m = sf B n l) ∧
    σ = [some (.ref bl), some (.ref r), some (.ref L), some (.ref Z), o4, o5, o6, o7, o8]) ⟨l, [], L0, _, _, _, _, _, ⟨s0.trans sZ, upd_same, sZ _ _ upd_same, ne_of_none upd_same hZ⟩, ⟨rfl, rfl, hl, rfl⟩, rfl⟩ ?_ ?_⟩
  · rintro i σ H1 hi ⟨m, f, L, o4, o5, o6, o7, o8, ⟨s1, z1, l1, hLZ⟩, ⟨em, ef, hm, esf⟩, rfl⟩
    refine ⟨_, rfl, bl, rfl, ⟨_, SqL.of (s1 _ _ b1)⟩, fun D hD => lc_fn (walk_list (xs := bs.map V.ref)) (fun _ => some (.bl true)) (by omega) hD (fun _ sm => SqL.of (sm _ _ (s1 _ _ b1))) ?_ ?_⟩
    · rintro j y H4 H5 Qy Qn hj sm ⟨rfl, hy⟩ h1 h2
      exact ⟨rfl, yesT (h1 _ _ rfl (Same.refl _))⟩
    · intro H2 s2 hD2
      rw [bn, cnst_bl] at hD2
      have nD : H D = Option.none := s1.free hD
      refine ⟨_, rfl, ?_⟩
      refine r_lenN (i := 2) rfl (s2 _ _ l1) ?_
      have F : ∀ {H' : Hp}, Same (rm D H2) H' → Same H1 H' := fun s b o hb => s _ _ (rm_of (s2 _ _ hb) (ne_of_none hb hD))
      have fD : rm D H2 D = Option.none := by unfold rm; rw [if_pos rfl]
      refine ⟨_, rfl, by omega, by omega, for_range (lo := 0) (n := m.length) (fun j σ H' => ∃ o o5 o8, Same (rm D H2) H' ∧ H' D = some (.lst (tab n fun x => V.bl (rdy B m j x))) ∧ Best B m j o ∧ σ = [some (.ref bl), some (.ref r), some (.ref L), some (.ref Z), some (.int (0 + (i : Int))), o5, some (.ref D), some (bV o), o8]) ⟨none, _, _, rm_le _ _, hD2, fun p hp => by omega, rfl⟩ ?_ ?_⟩
      · rintro j σ H3 hj ⟨o, p5, p8, s3, d3, bst, rfl⟩
        show tSeq _ _ _ ([some (.ref bl), some (.ref r), some (.ref L), some (.ref Z), some (.int (0 + (i : Int))), p5, some (.ref D), some (bV o), some (.int (0 + (j : Int)))] : L2.St) H3
        rw [Int.zero_add (j : Int)]
        have gj := getD_at hj
        have gn := hm _ (mem_getD hj)
        have l3 : H3 L = some (.lst (vNs m)) := F s3 _ _ l1
        -- what follows: the lamps that are not apart are no longer ready
        have rest : ∀ (o' : Option Nat), Best B m (j + 1) o' → tFor (iRng1 (tCons (tCB (rLen K) (tCons (tVar 0) tNil)) tNil)) (gName 5) (tIfS (tNot (tB (tCl (sp__law_apart K) E0 (tCons (tVar 0) (tCons (tOp (rIxL K) (tVar 2) (tVar 8)) (tCons (tVar 5) tNil)))))) (tAsg (tC (.bl false)) (gSub (tVar 6) (tVar 5) rSetL)) tNext)
            { nx := fun σ H' => ∃ o o5 o8, Same (rm D H2) H' ∧ H' D = some (.lst (tab n fun x => V.bl (rdy B m (j + 1) x))) ∧ Best B m (j + 1) o ∧ σ = [some (.ref bl), some (.ref r), some (.ref L), some (.ref Z), some (.int (0 + (i : Int))), o5, some (.ref D), some (bV o), o8], rt := Q } [some (.ref bl), some (.ref r), some (.ref L), some (.ref Z), some (.int (0 + (i : Int))), p5, some (.ref D), some (bV o'), some (vN j)] H3 := by
          intro o' bst'
          refine r_lenL (i := 0) rfl (F s3 _ _ (s1 _ _ b1)) ?_
          rw [bn]
          refine ⟨_, rfl, by omega, by omega, for_range (lo := 0) (n := n) (fun v σ H' => ∃ o5, Same (rm D H2) H' ∧ H' D = some (.lst (tab n fun x => V.bl (if x < v then rdy B m (j + 1) x else rdy B m j x))) ∧ σ = [some (.ref bl), some (.ref r), some (.ref L), some (.ref Z), some (.int (0 + (i : Int))), o5, some (.ref D), some (bV o'), some (vN j)]) ⟨_, s3, ?_, rfl⟩ ?_ ?_⟩
          · rw [d3]
            refine congrArg (fun z => some (HO.lst z)) (tab_congr fun y hy => ?_)
            rw [if_neg (Nat.not_lt_zero y)]
          · rintro v σ H4 hv ⟨p5', s4, d4, rfl⟩
            show tIfS _ _ _ _ ([some (.ref bl), some (.ref r), some (.ref L), some (.ref Z), some (.int (0 + (i : Int))), some (.int (0 + (v : Int))), some (.ref D), some (bV o'), some (vN j)] : L2.St) H4
            rw [Int.zero_add (v : Int)]
            refine ⟨_, rfl, _, rfl, _, rfl, ixl (F s4 _ _ l1) gj ?_⟩
            refine ⟨_, rfl, bl, _, v, B, n, rfl, hb.mono (s1.trans (F s4)), gn, hv, ?_⟩
            refine ⟨_, rfl, ?_⟩
            have er : rdy B m (j + 1) v = (rdy B m j v && apart B (m.getD j 0) v) := rdy_succ gj
            cases e : apart B (m.getD j 0) v with
            | true =>
              refine iteF ⟨_, s4, ?_, rfl⟩
              rw [d4]
              refine congrArg (fun z => some (HO.lst z)) (tab_congr fun y hy => ?_)
              by_cases h1 : y < v
              · rw [if_pos h1, if_pos (by omega)]
              · rw [if_neg h1]
                by_cases h2 : y < v + 1
                · have : y = v := by omega
                  subst this
                  rw [if_pos h2, er, e, Bool.and_true]
                · rw [if_neg h2]
            | false =>
              refine iteT ⟨_, rfl, _, rfl, stl d4 (by rw [tab_len]; exact hv) ?_⟩
              rw [tab_bl_set]
              refine ⟨_, sm_mut s4 fD, ?_, rfl⟩
              rw [upd_same]
              refine congrArg (fun z => some (HO.lst z)) (tab_congr fun y hy => ?_)
              by_cases h0 : y = v
              · subst h0
                rw [if_pos rfl, if_pos (Nat.lt_succ_self y), er, e, Bool.and_false]
              · rw [if_neg h0]
                by_cases h1 : y < v
                · rw [if_pos h1, if_pos (by omega)]
                · rw [if_neg h1, if_neg (by omega)]
          · rintro σ H4 ⟨p5', s4, d4, rfl⟩
            refine ⟨o', _, _, s4, ?_, bst', rfl⟩
            rw [d4]
            refine congrArg (fun z => some (HO.lst z)) (tab_congr fun y hy => ?_)
            rw [if_pos hy]
        have eRP : RP B m j = rdy B m j (m.getD j 0) := rfl
        have keep : (RP B m j = true → ∃ p, o = some p ∧ m.getD p 0 ≤ m.getD j 0) → Best B m (j + 1) o := fun hk => by
          cases o with
          | none =>
            intro p hp
            rcases Nat.lt_succ_iff_lt_or_eq.mp hp with hp | rfl
            · exact bst p hp
            · cases e : RP B m p with
              | false => rfl
              | true =>
                obtain ⟨p', h, _⟩ := hk e
                cases h
          | some p =>
            obtain ⟨h1, h2, h3⟩ := bst
            refine ⟨by omega, h2, fun p' hp' hr' => ?_⟩
            rcases Nat.lt_succ_iff_lt_or_eq.mp hp' with hp' | rfl
            · exact h3 p' hp' hr'
            · obtain ⟨p'', h, h'⟩ := hk hr'
              cases h
              exact h'
        refine ⟨_, rfl, _, rfl, _, rfl, ixl l3 gj ?_⟩
        refine ixL d3 (tab_at gn) ?_
        refine ⟨_, rfl, ?_⟩
        cases e : rdy B m j (m.getD j 0) with
        | false =>
          refine iteF (iteF ?_)
          exact rest o (keep fun h => by rw [eRP, e] at h; cases h)
        | true =>
          refine iteT ⟨_, rfl, ?_⟩
          cases o with
          | none =>
            refine kc (ltI (b := true) (by decide) ⟨_, rfl, ?_⟩)
            refine iteT (iteT ?_)
            refine ⟨_, rfl, rest (some j) ⟨Nat.lt_succ_self j, eRP.trans e, fun p' hp' hr' => ?_⟩⟩
            rcases Nat.lt_succ_iff_lt_or_eq.mp hp' with hp' | rfl
            · have := bst p' hp'
              rw [this] at hr'
              cases hr'
            · exact Nat.le_refl _
          | some p =>
            obtain ⟨h1, h2, h3⟩ := bst
            have hpj : p < m.length := by omega
            refine kc (ltI (b := false) (by show decide ((p : Int) < 0) = false; exact decide_eq_false (by omega)) ⟨_, rfl, ?_⟩)
            refine iteF ?_
            refine ⟨_, rfl, _, rfl, ixl l3 gj ?_⟩
            refine ⟨_, rfl, _, rfl, ixl l3 (getD_at hpj) ?_⟩
            refine ltN ⟨_, rfl, ?_⟩
            by_cases hlt : m.getD j 0 < m.getD p 0
            · rw [decide_eq_true hlt]
              refine iteT ⟨_, rfl, rest (some j) ⟨Nat.lt_succ_self j, eRP.trans e, fun p' hp' hr' => ?_⟩⟩
              rcases Nat.lt_succ_iff_lt_or_eq.mp hp' with hp' | rfl
              · have := h3 p' hp' hr'
                omega
              · exact Nat.le_refl _
            · rw [decide_eq_false hlt]
              refine iteF ?_
              exact rest (some p) (keep fun _ => ⟨p, rfl, by omega⟩)
      · rintro σ H3 ⟨o, p5, p8, s3, d3, bst, rfl⟩
        obtain ⟨p, rfl, hp, hn, hrp⟩ := best_nxt hm (by omega) bst
        have s13 := F s3
        have l3 := s13 _ _ l1
        have z3 := s13 _ _ z1
        generalize hx : m.getD p 0 = x at hn
        have gp : m[p]? = some x := by rw [← hx]; exact getD_at hp
        refine r_app1 (i := 3) rfl z3 ?_
        refine ⟨_, rfl, _, rfl, ixl l3 gp ?_⟩
        refine apN z3 (by omega) ?_
        have l4 : (upd H3 Z (.lst (vNs (f ++ [x])))) L = some (.lst (vNs m)) := by
          rw [upd_ne hLZ]
          exact l3
        have s4 : Same H (upd H3 Z (.lst (vNs (f ++ [x])))) := sm_mut (s1.trans s13) nZ
        refine r_to (i := 2) (j := 7) rfl rfl l4 fun a ha => ?_
        have sa := sm_new (o := .lst (vNs (m.take p))) ha
        refine r_fromC (c := 1) (i := 2) (j := 7) rfl rfl (sa _ _ l4) fun c hc => ?_
        have sc := sm_new (o := .lst (vNs (m.drop (p + 1)))) hc
        refine catN (sc _ _ upd_same) upd_same (by rw [List.length_take, List.length_drop]; omega) fun z hz => ?_
        have sz := sm_new (o := .lst (vNs (m.take p ++ m.drop (p + 1)))) hz
        have e5 := erase_RP gp hrp
        have hZ4 : (upd H3 Z (.lst (vNs (f ++ [x])))) Z = some (.lst (vNs (f ++ [x]))) := upd_same
        refine ⟨m.take p ++ m.drop (p + 1), f ++ [x], z, _, _, _, _, _, ⟨s4.trans (sa.trans (sc.trans sz)), sz _ _ (sc _ _ (sa _ _ hZ4)), upd_same, Ne.symm (ne_of_none (sc _ _ (sa _ _ hZ4)) hz)⟩, ⟨?_, by simp [ef], fun y hy => ?_, ?_⟩, rfl⟩
        · rw [List.length_append, List.length_take, List.length_drop]
          omega
        · rw [← e5] at hy
          exact hm y (List.mem_of_mem_erase hy)
        · rw [← esf]
          have elen : m.length = (m.take p ++ m.drop (p + 1)).length + 1 := by
            rw [List.length_append, List.length_take, List.length_drop]
            omega
          rw [elen]
          have e6 : sfN B n ((m.take p ++ m.drop (p + 1)).length + 1) m = x :: sfN B n (m.take p ++ m.drop (p + 1)).length (m.take p ++ m.drop (p + 1)) := by
            show (match nxt B n m with | none => [] | some x => x :: sfN B n _ (m.erase x)) = _
            rw [hn]
            show x :: sfN B n _ (m.erase x) = _
            rw [e5]
          rw [e6]
          simp
  · rintro σ H1 ⟨m, f, L, o4, o5, o6, o7, o8, ⟨s1, z1, l1, hLZ⟩, ⟨em, ef, hm, esf⟩, rfl⟩
    have e : m = [] := List.length_eq_zero_iff.mp (by omega)
    subst e
    have e2 : f = sf B n l := by
      rw [← esf]
      exact (List.append_nil f).symm
    rw [e2] at z1
    exact ⟨_, rfl, q Z H1 nZ s1 z1⟩
end Hue
end
section
set_option maxHeartbeats 4000000
namespace Hue
open PySem PySem.Spec PyProof.Rows L2

theorem p__law_other {K : PySem.W.Frag} : ∀ vs H Q E, sp__law_other K vs H Q E → vs.length = 3 ∧ t__law_other K { nx := fun _ H' => Q .non H', rt := Q } (start N__law_other vs) H := by
  rintro vs H Q E ⟨b, bl, r, l, B, n, rfl, hb, hbl, hr, hl, n1, n16, hl2, q⟩
  refine ⟨rfl, ?_⟩
  refine ⟨_, rfl, b, 5, rfl, hb, by decide, by decide, fun d H1 hd x1 => ?_⟩
  -- shuffled
  have shf : ∀ (H2 : Hp) (σ : L2.St), Bx b H H2 → σ[0]? = some (some (.ref b)) → σ[1]? = some (some (.ref bl)) → σ[2]? = some (some (.ref r)) → tCl (sp__law_shuffled K) E0 (tCons (tVar 0) (tCons (tVar 1) (tCons (tVar 2) tNil))) σ H2 Q := fun H2 σ x2 e0 e1 e2 =>
    ⟨_, e0, _, e1, _, e2, b, bl, r, l, B, n, rfl, x2.2, hbl.mono x2.1, x2.rat hr, hl, hl2, fun p m H3 ag x3 hp => q p m H3 (fun x hx => hl x ((ag.mem x).mpr hx)) (by rw [← ag.length]; exact hl2) (x2.trans x3) hp⟩
  have fin : ∀ (m : List Nat) (H2 H3 : Hp) (z : Addr), Bx b H H2 → (∀ x ∈ m, x < n) → m.length ≤ 100 → Same H2 H3 → H2 z = Option.none → H3 z = some (.lst (vNs m)) → Q (.ref z) H3 := fun m H2 H3 z x2 h1 h2 s hz h3 => q z m H3 h1 h2 (x2.grow s) (rm_of h3 (x2.2.ne hz))
  refine ⟨_, rfl, kc (eqN (y := 0) ⟨_, rfl, ?_⟩)⟩
  by_cases h0 : d = 0
  · subst h0
    exact iteT (iteT (shf H1 _ x1 rfl rfl rfl))
  · rw [decide_eq_false h0]
    refine iteF ⟨_, rfl, Nat.zero_le _, fun z hz => ?_⟩
    have sz : Same H1 (upd H1 z (.lst [])) := sm_new hz
    have x2 := x1.grow sz
    refine eqN0 (x2.at hr) upd_same ⟨_, rfl, ?_⟩
    cases el : l.isEmpty with
    | true => exact iteT (shf _ _ x2 rfl rfl rfl)
    | false =>
      have llen : 0 < l.length := by
        cases l with
        | nil => cases el
        | cons _ _ => exact Nat.succ_pos _
      refine iteF ?_
      refine ⟨_, rfl, ?_⟩
      refine r_lenN (i := 2) rfl (x2.at hr) ?_
      refine ⟨b, _, rfl, x2.2, by omega, by omega, fun k H3 hk hx3 => ?_⟩
      have x3 := x2.trans hx3
      have hk' : k < l.length := by omega
      have r3 := x3.at hr
      have mt : ∀ x ∈ l.take k, x < n := fun x hx => hl x (List.mem_of_mem_take hx)
      have md : ∀ (j : Nat), ∀ x ∈ l.drop j, x < n := fun j x hx => hl x (List.mem_of_mem_drop hx)
      refine ⟨_, rfl, kc (eqN (y := 1) ⟨_, rfl, ?_⟩)⟩
      by_cases h1 : d = 1
      · rw [decide_eq_true h1]
        refine iteT ?_
        refine r_to (i := 2) (j := 4) rfl rfl r3 fun a ha => ?_
        have sa := sm_new (o := .lst (vNs (l.take k))) ha
        have xa := x3.grow sa
        obtain ⟨bs, b1, b2⟩ := (hbl.mono xa.1).mono (rm_le _ _)
        refine ⟨_, rfl, ?_⟩
        refine r_lenL (i := 1) rfl b1 ?_
        rw [List.length_map, b2.1, belRows_len]
        refine ⟨b, _, rfl, xa.2, by omega, by omega, fun w H4 hw hx4 => ?_⟩
        have x4 := xa.trans hx4
        have na : a ≠ b := x3.2.ne ha
        have a4 : H4 a = some (.lst (vNs (l.take k))) := hx4.at (rm_of upd_same na)
        refine ⟨n_line (by show 1 ≤ _; decide), fun c hc => ?_⟩
        have sc := sm_new (o := .lst [vN w]) hc
        refine catN (ys := [w]) (sc _ _ a4) upd_same (by rw [List.length_take]; simp; omega) fun e he => ?_
        have se := sm_new (o := .lst (vNs (l.take k ++ [w]))) he
        have s4e := sc.trans se
        refine r_fromC (c := 1) (i := 2) (j := 4) rfl rfl (s4e _ _ (x4.at hr)) fun f hf => ?_
        have sf := sm_new (o := .lst (vNs (l.drop (k + 1)))) hf
        refine catN (sf _ _ upd_same) upd_same (by rw [List.length_append, List.length_take, List.length_drop]; simp; omega) fun g hg => ?_
        refine fin (l.take k ++ [w] ++ l.drop (k + 1)) H4 _ g x4 (fun x hx => ?_) (by rw [List.length_append, List.length_append, List.length_take, List.length_drop]; simp; omega) (s4e.trans (sf.trans (sm_new hg))) ((s4e.trans sf).free hg) upd_same
        rcases List.mem_append.mp hx with hx | hx
        · rcases List.mem_append.mp hx with hx | hx
          · exact mt x hx
          · rw [List.mem_singleton.mp hx]
            omega
        · exact md _ x hx
      · rw [decide_eq_false h1]
        refine iteF ?_
        refine ⟨_, rfl, kc (eqN (y := 2) ⟨_, rfl, ?_⟩)⟩
        by_cases h2 : d = 2
        · rw [decide_eq_true h2]
          refine iteT ?_
          refine r_to (i := 2) (j := 4) rfl rfl r3 fun a ha => ?_
          have sa := sm_new (o := .lst (vNs (l.take k))) ha
          refine r_fromC (c := 1) (i := 2) (j := 4) rfl rfl (sa _ _ r3) fun f hf => ?_
          have sf := sm_new (o := .lst (vNs (l.drop (k + 1)))) hf
          refine catN (sf _ _ upd_same) upd_same (by rw [List.length_take, List.length_drop]; omega) fun g hg => ?_
          refine fin (l.take k ++ l.drop (k + 1)) H3 _ g x3 (fun x hx => ?_) (by rw [List.length_append, List.length_take, List.length_drop]; omega) (sa.trans (sf.trans (sm_new hg))) ((sa.trans sf).free hg) upd_same
          rcases List.mem_append.mp hx with hx | hx
          · exact mt x hx
          · exact md _ x hx
        · rw [decide_eq_false h2]
          refine iteF ?_
          refine ⟨_, rfl, kc (eqN (y := 3) ⟨_, rfl, ?_⟩)⟩
          by_cases h3 : d = 3
          · rw [decide_eq_true h3]
            refine iteT ?_
            refine r_to (i := 2) (j := 4) rfl rfl r3 fun a ha => ?_
            have sa := sm_new (o := .lst (vNs (l.take k))) ha
            refine ⟨_, rfl, _, rfl, k, rfl, _, rfl, kc (adN (y := 2) ?_)⟩
            refine ⟨_, rfl, r, vNs l, rfl, SqL.of (sa _ _ r3), fun c hc => ?_⟩
            obtain ⟨ms, em, hm1, hm2⟩ : ∃ ms : List Nat, cutV (vNs l) (some (k : Int)) (some ((k + 2 : Nat) : Int)) = vNs ms ∧ (∀ x ∈ ms, x < n) ∧ ms.length ≤ l.length - k ∧ ms.length ≤ 2 := by
              unfold cutV vNs
              rw [HT.sIx_nat, HT.sIx_nat]
              refine ⟨_, by rw [← List.map_drop, ← List.map_take], fun x hx => md _ x (List.mem_of_mem_take hx), ?_⟩
              rw [List.length_take, List.length_drop, List.length_map]
              omega
            rw [em]
            have sc := sm_new (o := .lst (vNs ms)) hc
            refine ⟨c, vNs ms, rfl, SqL.of upd_same, fun e he => ?_⟩
            have er : (vNs ms).reverse = vNs ms.reverse := by unfold vNs; rw [List.map_reverse]
            rw [er]
            have se := sm_new (o := .lst (vNs ms.reverse)) he
            have s3e := sa.trans (sc.trans se)
            refine catN (se _ _ (sc _ _ upd_same)) upd_same (by rw [List.length_take, List.length_reverse]; omega) fun g hg => ?_
            have sg := sm_new (o := .lst (vNs (l.take k ++ ms.reverse))) hg
            refine r_fromC (c := 2) (i := 2) (j := 4) rfl rfl (sg _ _ (s3e _ _ r3)) fun f hf => ?_
            have sf := sm_new (o := .lst (vNs (l.drop (k + 2)))) hf
            refine catN (sf _ _ upd_same) upd_same (by rw [List.length_append, List.length_take, List.length_drop, List.length_reverse]; omega) fun y hy => ?_
            have sall := s3e.trans (sg.trans sf)
            refine fin (l.take k ++ ms.reverse ++ l.drop (k + 2)) H3 _ y x3 (fun x hx => ?_) (by rw [List.length_append, List.length_append, List.length_take, List.length_drop, List.length_reverse]; omega) (sall.trans (sm_new hy)) (sall.free hy) upd_same
            rcases List.mem_append.mp hx with hx | hx
            · rcases List.mem_append.mp hx with hx | hx
              · exact mt x hx
              · exact hm1 x (List.mem_reverse.mp hx)
            · exact md _ x hx
          · rw [decide_eq_false h3]
            refine iteF ?_
            refine ⟨Nat.zero_le _, fun Z hZ => ?_⟩
            have nZ : H Z = Option.none := x3.free hZ
            have zb := x3.2.ne hZ
            refine ⟨_, rfl, r, rfl, ⟨_, SqL.of ((x3.new hZ).at hr)⟩, for_list (xs := vNs l) (fun i σ H' => ∃ m o, Bx b H H' ∧ rm b H' Z = some (.lst (vNs m)) ∧ m.length = i ∧ (∀ x ∈ m, x < n) ∧ σ = [some (.ref b), some (.ref bl), some (.ref r), some (vN d), some (vN k), some (.ref Z), o]) ⟨[], _, x3.new hZ, rm_new zb, rfl, fun x hx => by simp at hx, rfl⟩ (fun i σ H' _ p => ?_) ?_ ?_⟩
            · obtain ⟨_, _, p, _⟩ := p
              exact SqL.of (p.at hr)
            · rintro i x σ H4 hx ⟨m, o, x4, z4, ml, mn, rfl⟩
              obtain ⟨w, hw, rfl⟩ := of_vNs hx
              have hi := lt_at hw
              refine r_ins1 (i := 5) rfl (rm_le _ _ _ _ z4) ?_
              refine ⟨_, rfl, ?_⟩
              refine r_lenN (i := 5) rfl (rm_le _ _ _ _ z4) ?_
              refine kc (adN (y := 1) ?_)
              refine ⟨b, _, rfl, x4.2, by omega, by omega, fun e H5 he hx5 => ?_⟩
              refine ⟨_, rfl, Z, vNs m, _, _, rfl, rfl, hx5.at z4, n_lt (by rw [vNs_len]; omega), by omega, by omega, ?_⟩
              have ev : (vNs m).take ((e : Nat) : Int).toNat ++ [vN w] ++ (vNs m).drop ((e : Nat) : Int).toNat = vNs (m.take e ++ [w] ++ m.drop e) := by
                rw [Int.toNat_natCast]
                unfold vNs
                rw [List.map_append, List.map_append, List.map_take, List.map_drop]
                rfl
              rw [ev]
              refine ⟨m.take e ++ [w] ++ m.drop e, _, Bx.mut hb (x4.trans hx5) nZ, rm_new zb, ?_, fun x hx => ?_, rfl⟩
              · rw [List.length_append, List.length_append, List.length_take, List.length_drop]
                simp
                omega
              · rcases List.mem_append.mp hx with hx | hx
                · rcases List.mem_append.mp hx with hx | hx
                  · exact mn x (List.mem_of_mem_take hx)
                  · rw [List.mem_singleton.mp hx]
                    exact hl w (mem_at hw)
                · exact mn x (List.mem_of_mem_drop hx)
            · rintro σ H4 ⟨m, o, x4, z4, ml, mn, rfl⟩
              rw [vNs_len] at ml
              exact ⟨_, rfl, q Z m H4 mn (by omega) x4 z4⟩

/-! ### all swaps -/
def kvsOf (S : List (List Nat)) : List (List Key × V) := S.map fun l => (kL l, V.bl true)
theorem kL_inj {l m : List Nat} (h : kL l = kL m) : l = m := by
  induction l generalizing m with
  | nil =>
    cases m with
    | nil => rfl
    | cons _ _ => cases h
  | cons a l ih =>
    cases m with
    | nil => cases h
    | cons b m =>
      have e1 := Sum.inl.inj (List.cons.inj h).1
      have e2 : a = b := by omega
      rw [e2, ih (List.cons.inj h).2]
theorem kL_V {l : List Nat} : (kL l).map kV = vNs l := by
  unfold kL vNs
  rw [List.map_map]
  rfl
theorem kvs_get {S : List (List Nat)} {o : List Nat} : (valV (kvsOf S) (kL o)).isSome = S.contains o := by
  rw [← valV_any]
  unfold kvsOf
  rw [List.any_map, Bool.eq_iff_iff, List.any_eq_true, List.contains_iff_mem]
  constructor
  · rintro ⟨l, h1, h2⟩
    have := kL_inj (of_decide_eq_true h2)
    rwa [← this]
  · intro h
    exact ⟨o, h, decide_eq_true rfl⟩
theorem kvs_put {S : List (List Nat)} {o : List Nat} (h : S.contains o = false) : putK (kvsOf S) (kL o) (V.bl true) = kvsOf (S ++ [o]) := by
  have e : valV (kvsOf S) (kL o) = Option.none := by
    cases e : valV (kvsOf S) (kL o) with
    | none => rfl
    | some x =>
      have := @kvs_get S o
      rw [e, h] at this
      cases this
  rw [putK_new _ e]
  unfold kvsOf
  rw [List.map_append]
  rfl
theorem Rows.put_sm {H H' : Hp} {as : List Addr} {rows : List (List Nat)} (h : Rows H as rows) (s : ∀ p r, H p = some (.lst (vNs r)) → p ∈ as → H' p = some (.lst (vNs r))) : Rows H' as rows := ⟨h.1, fun i p r a b => s p r (h.2 i p r a b) (mem_at a)⟩
theorem add1_pos {st : Runs × Runs} {o : List Nat} (h : st.1.contains o = true) : add1 st o = st := if_pos h
theorem add1_neg {st : Runs × Runs} {o : List Nat} (h : st.1.contains o = false) : add1 st o = (st.1 ++ [o], st.2 ++ [o]) := if_neg (by rw [h]; exact Bool.false_ne_true)
theorem fold_take {α β : Type} {f : α → β → α} {a : α} {l : List β} {i : Nat} {x : β} (h : l[i]? = some x) : (l.take (i + 1)).foldl f a = f ((l.take i).foldl f a) x := by
  rw [take_at h, List.foldl_append]
  rfl

theorem ll_of_relF {H : Hp} {F : Addr → Prop} : ∀ {ys : List V} {rows : List (List Nat)}, ys.length = rows.length → (∀ (i : Nat) y, ys[i]? = some y → ∃ z r, y = .ref z ∧ F z ∧ rows[i]? = some r ∧ H z = some (.lst (vNs r))) → ∃ as : List Addr, ys = as.map V.ref ∧ (∀ q ∈ as, F q) ∧ Rows H as rows
  | [], rows, hl, _ => ⟨[], rfl, fun q hq => by simp at hq, hl, fun i p r h1 h2 => by simp at h1⟩
  | y :: ys, [], hl, _ => by cases hl
  | y :: ys, r :: rows, hl, h => by
    obtain ⟨z, r', rfl, hz, e2, e3⟩ := h 0 y rfl
    cases e2
    obtain ⟨as, rfl, h2, h3⟩ := ll_of_relF (H := H) (F := F) (ys := ys) (rows := rows) (by simpa using hl) fun i y hy => h (i + 1) y hy
    refine ⟨z :: as, rfl, fun q hq => ?_, by simp [h3.1], fun i p t a1 a2 => ?_⟩
    · rcases List.mem_cons.mp hq with rfl | hq
      · exact hz
      · exact h2 q hq
    · cases i with
      | zero =>
        cases a1
        cases a2
        exact e3
      | succ i => exact h3.2 i p t a1 a2
theorem p__law_swaps {K : PySem.W.Frag} : ∀ vs H Q E, sp__law_swaps K vs H Q E → vs.length = 2 ∧ t__law_swaps K { nx := fun _ H' => Q .non H', rt := Q } (start N__law_swaps vs) H := by
  rintro vs H Q E ⟨bl, r, l, B, n, rfl, hb, hr, hl, hl2, q⟩
  refine ⟨rfl, ?_⟩
  refine pa ?_
  intro Sd hSd
  have s0 : Same H (upd H Sd (.dT [])) := sm_new hSd
  refine ⟨_, rfl, r, vNs l, rfl, .inl ⟨SqL.of (s0 _ _ hr), fun T hT => ?_⟩⟩
  have hST : Sd ≠ T := ne_of_none upd_same hT
  have sT : Same (upd H Sd (.dT [])) (upd (upd H Sd (.dT [])) T (.tup (vNs l))) := sm_new hT
  refine ⟨T, l, rfl, upd_same, sT _ _ upd_same, ?_⟩
  have s1 : Same H (upd (upd (upd H Sd (.dT [])) T (.tup (vNs l))) Sd (.dT [(kL l, .bl true)])) := sm_mut (s0.trans sT) hSd
  have d1 : (upd (upd (upd H Sd (.dT [])) T (.tup (vNs l))) Sd (.dT [(kL l, .bl true)])) Sd = some (.dT (kvsOf [l])) := upd_same
  generalize (upd (upd (upd H Sd (.dT [])) T (.tup (vNs l))) Sd (.dT [(kL l, .bl true)])) = H1 at s1 d1
  refine ⟨_, rfl, n_line (by show 1 ≤ _; decide), fun R0 hR0 => ?_⟩
  have sR : Same H1 (upd H1 R0 (.lst [.ref r])) := sm_new hR0
  refine ⟨_, rfl, by decide, by decide, for_range (lo := 0) (n := 11) (fun k σ H' => ∃ Rr o4 o5 o6 o7 o8, Same H H' ∧ H' Sd = some (.dT (kvsOf (turns B k ([l], [l])).1)) ∧ LLat H' Rr (turns B k ([l], [l])).2 ∧ σ = [some (.ref bl), some (.ref r), some (.ref Sd), some (.ref Rr), o4, o5, o6, o7, o8])
    ⟨R0, _, _, _, _, _, s1.trans sR, sR _ _ d1, ⟨[r], upd_same, rfl, fun i p t a1 a2 => ?_⟩, rfl⟩ ?_ ?_⟩
  · cases i with
    | zero =>
      cases a1
      cases a2
      exact sR _ _ (s1 _ _ hr)
    | succ j => simp at a1
  · rintro k σ H2 hk ⟨Rr, o4, o5, o6, o7, o8, s2, d2, R2, rfl⟩
    obtain ⟨hS, hRw⟩ := turns_len B l hl2 k (by omega)
    have hpow : 4 ^ k ≤ 1048576 := Nat.le_trans (Nat.pow_le_pow_right (by decide) (by omega : k ≤ 10)) (by decide)
    have I := bfs_turns B l k
    have hrows : ∀ t ∈ (turns B k ([l], [l])).2, t.length ≤ 5 ∧ ∀ x ∈ t, x < n := fun t ht => by
      have ag := I.sub t ht
      exact ⟨by rw [← ag.length]; exact hl2, fun x hx => hl x ((ag.mem x).mpr hx)⟩
    have estep : turns B (k + 1) ([l], [l]) = (turns B k ([l], [l])).2.foldl (addRow B) ((turns B k ([l], [l])).1, []) := rfl
    rw [estep]
    generalize (turns B k ([l], [l])).1 = S at *
    generalize (turns B k ([l], [l])).2 = rows at *
    refine ⟨Nat.zero_le _, fun Lt hLt => ?_⟩
    have hSL : Sd ≠ Lt := ne_of_none d2 hLt
    have sL : Same H2 (upd H2 Lt (.lst [])) := sm_new hLt
    have nLt : H Lt = Option.none := s2.free hLt
    obtain ⟨rs, r1, r2⟩ := R2
    have fS : rm Sd H2 Sd = Option.none := by unfold rm; rw [if_pos rfl]
    have fL : rm Sd H2 Lt = Option.none := rm_none hLt
    have keep : ∀ {H' : Hp}, Same (rm Sd H2) H' → Same H H' := fun s b o hb => s _ _ (rm_of (s2 _ _ hb) (ne_of_none hb hSd))
    have r1' : rm Sd H2 Rr = some (.lst (rs.map V.ref)) := rm_of r1 (fun e => by rw [e, d2] at r1; cases r1)
    have r2' : Rows (rm Sd H2) rs rows := ⟨r2.1, fun i p t a1 a2 => rm_of (r2.2 i p t a1 a2) (fun e => by have := r2.2 i p t a1 a2; rw [e, d2] at this; cases this)⟩
    refine ⟨_, rfl, Rr, rfl, ⟨_, SqL.of (sL _ _ r1)⟩, for_list (xs := rs.map V.ref) (fun j σ H' => ∃ as o6 o7 o8, (Same (rm Sd H2) H' ∧ H' Sd = some (.dT (kvsOf ((rows.take j).foldl (addRow B) (S, [])).1)) ∧ H' Lt = some (.lst (as.map V.ref)) ∧ Rows H' as ((rows.take j).foldl (addRow B) (S, [])).2 ∧ Lt ∉ as) ∧
      σ = [some (.ref bl), some (.ref r), some (.ref Sd), some (.ref Rr), some (.int (0 + (k : Int))), some (.ref Lt), o6, o7, o8]) ⟨[], _, _, _, ⟨(rm_le _ _).trans sL, sL _ _ d2, upd_same, ⟨rfl, fun i p t a1 a2 => by simp at a1⟩, by simp⟩, rfl⟩ (fun j σ H' _ p => ?_) ?_ ?_⟩
    · obtain ⟨_, _, _, _, p, _⟩ := p
      exact SqL.of (p.1 _ _ r1')
    · rintro j x σ H3 hx ⟨as, p6, p7, p8, ⟨s3, d3, l3, R3, nin⟩, rfl⟩
      have hjl : j < rows.length := by
        have := lt_at hx
        rwa [List.length_map, r2.1] at this
      obtain ⟨row, hrow⟩ := at_ex hjl
      obtain ⟨rp, e1, e2⟩ := r2'.get hrow
      rw [List.getElem?_map, e1] at hx
      cases Option.some.inj hx
      obtain ⟨hrl, hrn⟩ := hrows row (mem_at hrow)
      have hbnd := foldl_addRow_len B (rows.take j) (fun t ht => (hrows t (List.mem_of_mem_take ht)).1) (S, [])
      have hnb := nbrs_length B row
      have hst : (rows.take j).length ≤ rows.length := by rw [List.length_take]; omega
      rw [fold_take hrow]
      generalize ((rows.take j).foldl (addRow B) (S, [])) = st at *
      have hb3 : st.1.length ≤ 8000000 := by
        have : ((S, ([] : Runs)) : Runs × Runs).1.length = S.length := rfl
        omega
      have hb4 : st.2.length ≤ 8000000 := by
        have : ((S, ([] : Runs)) : Runs × Runs).2.length = 0 := rfl
        omega
      refine ⟨_, rfl, _, rfl, bl, rp, row, B, n, rfl, hb.mono (keep s3), s3 _ _ e2, hrn, by omega, fun Nb ns H4 nNb nns s4 n1 n2 => ?_⟩
      have l4 := s4 _ _ l3
      have d4 := s4 _ _ d3
      have gS : rm Sd (rm Lt H4) Sd = Option.none := by unfold rm; rw [if_pos rfl]
      have gL : rm Sd (rm Lt H4) Lt = Option.none := rm_none (by unfold rm; rw [if_pos rfl])
      have F : ∀ {H' : Hp}, Same (rm Sd (rm Lt H4)) H' → Same (rm Sd H2) H' := fun s b o hb => s _ _ (rm_of (rm_of (s4 _ _ (s3 _ _ hb)) (ne_of_none hb fL)) (ne_of_none hb fS))
      have neS : ∀ z, H3 z = Option.none → z ≠ Sd := fun z hz e => by rw [e, d3] at hz; cases hz
      have neL : ∀ z, H3 z = Option.none → z ≠ Lt := fun z hz e => by rw [e, l3] at hz; cases hz
      have n1' : rm Sd (rm Lt H4) Nb = some (.lst (ns.map V.ref)) := rm_of (rm_of n1 (neL _ nNb)) (neS _ nNb)
      have n2' : Rows (rm Sd (rm Lt H4)) ns (nbrs B row) := ⟨n2.1, fun i p t a1 a2 => rm_of (rm_of (n2.2 i p t a1 a2) (neL _ (nns p (mem_at a1)))) (neS _ (nns p (mem_at a1)))⟩
      refine ⟨Nb, rfl, ⟨_, SqL.of n1⟩, for_list (xs := ns.map V.ref) (fun m σ H' => ∃ as o7 o8, (Same (rm Sd (rm Lt H4)) H' ∧ H' Sd = some (.dT (kvsOf (((nbrs B row).take m).foldl add1 st).1)) ∧ H' Lt = some (.lst (as.map V.ref)) ∧ Rows H' as (((nbrs B row).take m).foldl add1 st).2 ∧ Lt ∉ as) ∧
        σ = [some (.ref bl), some (.ref r), some (.ref Sd), some (.ref Rr), some (.int (0 + (k : Int))), some (.ref Lt), some (.ref rp), o7, o8]) ⟨as, _, _, ⟨(rm_le _ _).trans (rm_le _ _), d4, l4, R3.mono s4, nin⟩, rfl⟩ (fun m σ H' _ p => ?_) ?_ ?_⟩
      · obtain ⟨_, _, _, p, _⟩ := p
        exact SqL.of (p.1 _ _ n1')
      · rintro m x σ H5 hx ⟨as5, p7, p8, ⟨s5, d5, l5, R5, nin5⟩, rfl⟩
        have hml : m < (nbrs B row).length := by
          have := lt_at hx
          rwa [List.length_map, n2.1] at this
        obtain ⟨o, ho⟩ := at_ex hml
        obtain ⟨op, e3, e4⟩ := n2'.get ho
        rw [List.getElem?_map, e3] at hx
        cases Option.some.inj hx
        have hbnd5 := foldl_add1_len ((nbrs B row).take m) st
        have hml2 : ((nbrs B row).take m).length ≤ 4 := by rw [List.length_take]; omega
        rw [fold_take ho]
        generalize (((nbrs B row).take m).foldl add1 st) = su at *
        refine ⟨_, rfl, op, vNs o, rfl, .inl ⟨SqL.of (s5 _ _ e4), fun T1 hT1 => ?_⟩⟩
        have sT1 : Same H5 (upd H5 T1 (.tup (vNs o))) := sm_new hT1
        refine ⟨_, rfl, Sd, _, rfl, DGet.t (k := kL o) (sT1 _ _ d5) (by rw [kL_V]; exact upd_same), _, rfl, ?_⟩
        rw [kvs_get]
        cases hc : su.1.contains o with
        | true =>
          rw [add1_pos hc]
          exact iteF ⟨as5, _, _, ⟨s5.trans sT1, sT1 _ _ d5, sT1 _ _ l5, R5.mono sT1, nin5⟩, rfl⟩
        | false =>
          rw [add1_neg hc]
          refine iteT ⟨_, rfl, _, rfl, op, vNs o, rfl, .inl ⟨SqL.of (sT1 _ _ (s5 _ _ e4)), fun T2 hT2 => ?_⟩⟩
          have sT2 : Same (upd H5 T1 (.tup (vNs o))) (upd (upd H5 T1 (.tup (vNs o))) T2 (.tup (vNs o))) := sm_new hT2
          have s5' := sT1.trans sT2
          refine ⟨Sd, _, rfl, DPut.t (k := kL o) (s5' _ _ d5) (by rw [kL_V]; exact upd_same) (n_lt (by unfold kvsOf; rw [List.length_map]; omega)), ?_⟩
          rw [kvs_put hc]
          have l6 : (upd (upd (upd H5 T1 (.tup (vNs o))) T2 (.tup (vNs o))) Sd (.dT (kvsOf (su.1 ++ [o])))) Lt = some (.lst (as5.map V.ref)) := by
            rw [upd_ne (Ne.symm hSL)]
            exact s5' _ _ l5
          refine r_app1 (i := 5) rfl l6 ?_
          refine ⟨_, rfl, apL l6 (by rw [List.length_map, R5.1]; omega) ?_⟩
          have s6 : Same (rm Sd (rm Lt H4)) (upd (upd (upd (upd H5 T1 (.tup (vNs o))) T2 (.tup (vNs o))) Sd (.dT (kvsOf (su.1 ++ [o])))) Lt (.lst (as5.map V.ref ++ [.ref op]))) := sm_mut (sm_mut (s5.trans s5') gS) gL
          have nop : op ≠ Lt := fun e => by rw [e, gL] at e4; cases e4
          refine ⟨as5 ++ [op], _, _, ⟨s6, by rw [upd_ne hSL]; exact upd_same, by rw [upd_same]; simp, ?_, fun z => ?_⟩, rfl⟩
          · have R6 : Rows (upd (upd (upd (upd H5 T1 (.tup (vNs o))) T2 (.tup (vNs o))) Sd (.dT (kvsOf (su.1 ++ [o])))) Lt (.lst (as5.map V.ref ++ [.ref op]))) as5 su.2 := R5.put_sm fun p t hp hm => by
              rw [upd_ne (fun e : p = Lt => nin5 (e ▸ hm)), upd_ne (fun e : p = Sd => by rw [e, d5] at hp; cases hp)]
              exact s5' _ _ hp
            exact rows_app R6 (Same.refl _) (s6 _ _ e4)
          · rcases List.mem_append.mp z with z | z
            · exact nin5 z
            · exact nop (List.mem_singleton.mp z).symm
      · rintro σ H5 ⟨as5, p7, p8, ⟨s5, d5, l5, R5, nin5⟩, rfl⟩
        rw [List.length_map, n2.1, List.take_length] at d5 R5
        exact ⟨as5, _, _, _, ⟨F s5, d5, l5, R5, nin5⟩, rfl⟩
    · rintro σ H3 ⟨as, p6, p7, p8, ⟨s3, d3, l3, R3, nin⟩, rfl⟩
      rw [List.length_map, r2.1, List.take_length] at d3 R3
      exact ⟨_, rfl, Lt, _, _, _, _, _, keep s3, d3, ⟨as, l3, R3⟩, rfl⟩
  · rintro σ H2 ⟨Rr, o4, o5, o6, o7, o8, s2, d2, R2, rfl⟩
    have hlen : (turns B 11 ([l], [l])).1.length ≤ 10000000 := by
      obtain ⟨hS, hRw⟩ := turns_len B l hl2 10 (by decide)
      have I := bfs_turns B l 10
      have h := foldl_addRow_len B (turns B 10 ([l], [l])).2 (fun t ht => by rw [← (I.sub t ht).length]; exact hl2) ((turns B 10 ([l], [l])).1, [])
      have e : turns B 11 ([l], [l]) = (turns B 10 ([l], [l])).2.foldl (addRow B) ((turns B 10 ([l], [l])).1, []) := rfl
      rw [e]
      have e2 : (((turns B 10 ([l], [l])).1, ([] : Runs)) : Runs × Runs).1.length = (turns B 10 ([l], [l])).1.length := rfl
      have e3 : 4 ^ 10 = 1048576 := by decide
      omega
    have q2 : ∀ (p : Addr) (as : List Addr) (H' : Hp), H p = Option.none → (∀ q ∈ as, H q = Option.none) → Same H H' → H' p = some (.lst (as.map V.ref)) → Rows H' as (turns B 11 ([l], [l])).1 → Q (.ref p) H' := q
    clear q
    generalize (turns B 11 ([l], [l])).1 = S at *
    refine ⟨Sd, _, d2, trivial, fun od => ?_⟩
    have sF : Same H (upd H2 Sd (.frz od (.dT (kvsOf S)))) := sm_mut s2 hSd
    refine ⟨_, rfl, Sd, od, rfl, .inr ⟨kvsOf S, upd_same, fun D hD => ?_⟩⟩
    have nD : D ≠ Sd := fun e => by rw [e, upd_same] at hD; cases hD
    refine lc_rel (walk_keysT (kvs := kvsOf S)) (fun i y H' => ∃ z, y = .ref z ∧ (z ≠ Sd ∧ H z = Option.none) ∧ ∀ t, S[i]? = some t → H' z = some (.lst (vNs t))) (fun i y Ha Hb sm ⟨z, e, nz, hz⟩ => ⟨z, e, nz, fun t ht => sm _ _ (hz t ht)⟩) (by unfold kvsOf; rw [List.length_map]; exact hlen) hD (fun H' sm => sm _ _ upd_same) ?_ ?_ gn_mono
    · rintro i x H3 H4 Qy hi sm ⟨ys, hys⟩ ⟨rfl, kk, vv, kp, hkv, rfl, hkp⟩ h1
      have hil : i < S.length := by
        unfold kvsOf at hi
        rwa [List.length_map] at hi
      obtain ⟨t, ht⟩ := at_ex hil
      unfold kvsOf at hkv
      rw [List.getElem?_map, ht] at hkv
      have ek : kk = kL t := (Prod.mk.inj (Option.some.inj hkv)).1.symm
      rw [ek, kL_V] at hkp
      refine ⟨rfl, ?_⟩
      refine r_listT (i := 8) rfl hkp fun z hz => ?_
      refine h1 _ _ ⟨z, rfl, ⟨fun e => ?_, (sF.trans sm).free hz⟩, fun t' ht' => ?_⟩ (sm_new hz)
      · rw [e, sm _ _ upd_same] at hz
        cases hz
      · rw [ht] at ht'
        cases ht'
        exact rm_of upd_same (fun e => by rw [e, hys] at hz; cases hz)
    · intro ys H3 e1 e2 sm hD3
      unfold kvsOf at e1
      rw [List.length_map] at e1
      obtain ⟨cs, ec, fc, rc⟩ := ll_of_relF (H := H3) (F := fun z => z ≠ Sd ∧ H z = Option.none) (ys := ys) (rows := S) e1 fun i y hy => by
        obtain ⟨z, rfl, nz, hz⟩ := e2 i y hy
        obtain ⟨t, ht⟩ := at_ex (l := S) (i := i) (by have := lt_at hy; omega)
        exact ⟨z, t, rfl, nz, ht, hz t ht⟩
      exact ⟨sm _ _ upd_same, q2 D cs _ (sF.free hD) (fun z hz => (fc z hz).2) (sm_mut (sF.trans sm) hSd) (by rw [upd_ne nD, hD3, ec]) (rc.off fun z => (fc Sd z).1 rfl)⟩
end Hue
end
section
set_option maxHeartbeats 4000000
namespace Hue
open PySem PySem.Spec PyProof.Rows L2
section
variable {K : PySem.W.Frag} {H : Hp} {Q : VK}
theorem neB {a b : Bool} (q : Q (.bl (a != b)) H) : rNe (.bl a) (.bl b) H Q := ⟨rfl, by
  have e : (!decide (V.bl a = V.bl b)) = (a != b) := by cases a <;> cases b <;> rfl
  rw [e]
  exact q⟩
theorem bne_same (a : Bool) : (a != a) = false := by cases a <;> rfl
theorem r_isiBB {σ : L2.St} {i : Nat} {b : Bool} (e : σ[i]? = some (some (.bl b))) (q : Q (.bl true) H) : tCB (rIsi K) (tCons (tVar i) (tCons (tC (.ty "bool")) tNil)) σ H Q := ⟨_, e, isiBB q⟩
/-- sorted_form of a run of lamps -/
theorem c_sorted {a r : Addr} {l : List Nat} {B : Bel} {n : Nat} {h : Int} {E : XK} (hh : HouseAt K H a B n h) (ir : ∀ w, B w w = false) (hr : H r = some (.lst (vNs l))) (hl : ∀ x ∈ l, x < n) (hl2 : l.length ≤ 1000) (q : RetN H Q (.lst (vNs (sf B n l)))) : sp_sorted_form K [.ref a, .ref r] H Q E :=
  ⟨a, r, vNs l, B, n, h, rfl, hh, hr, pl_vNs, fun _ => ⟨ir, l, rfl, hl2, q⟩, fun x hx => by rw [bad_none hl] at hx; cases hx⟩
theorem c_neigh {a r : Addr} {l : List Nat} {B : Bel} {n : Nat} {h : Int} {E : XK} (hh : HouseAt K H a B n h) (hr : H r = some (.lst (vNs l))) (hl : ∀ x ∈ l, x < n) (hl2 : l.length ≤ 1000) (q : RetNN H Q (nbrs B l)) : sp_neighbours K [.ref a, .ref r] H Q E :=
  ⟨a, r, vNs l, B, n, h, rfl, hh, hr, pl_vNs, fun _ => ⟨l, rfl, hl2, q⟩, fun x hx => by rw [bad_none hl] at hx; cases hx⟩
theorem c_swap {a r s : Addr} {l m : List Nat} {B : Bel} {n : Nat} {h : Int} {E : XK} (hh : HouseAt K H a B n h) (hr : H r = some (.lst (vNs l))) (hs : H s = some (.lst (vNs m))) (hl : ∀ x ∈ l, x < n) (hm : ∀ x ∈ m, x < n) (hl2 : l.length ≤ 1000) (hm2 : m.length ≤ 1000) (q : ∀ H', Same H H' → Q (.bl (swB B n l m)) H') : sp_is_swap K [.ref a, .ref r, .ref s] H Q E :=
  ⟨a, r, s, vNs l, vNs m, B, n, h, rfl, hh, hr, hs, pl_vNs, pl_vNs, fun _ _ => ⟨l, m, rfl, rfl, hl2, hm2, q⟩, (fun x hx => by rw [bad_none hl] at hx; cases hx), (fun _ x hx => by rw [bad_none hm] at hx; cases hx)⟩
section
variable {σ : L2.St} {i j k : Nat} {a r s : Addr} {l m : List Nat} {B : Bel} {n : Nat} {h : Int} {E : XK}
theorem r_sorted (e1 : σ[i]? = some (some (.ref a))) (e2 : σ[j]? = some (some (.ref r))) (hh : HouseAt K H a B n h) (ir : ∀ w, B w w = false) (hr : H r = some (.lst (vNs l))) (hl : ∀ x ∈ l, x < n) (hl2 : l.length ≤ 1000) (q : RetN H Q (.lst (vNs (sf B n l)))) : tCl (sp_sorted_form K) E (tCons (tVar i) (tCons (tVar j) tNil)) σ H Q := ⟨_, e1, _, e2, c_sorted hh ir hr hl hl2 q⟩
theorem r_neigh (e1 : σ[i]? = some (some (.ref a))) (e2 : σ[j]? = some (some (.ref r))) (hh : HouseAt K H a B n h) (hr : H r = some (.lst (vNs l))) (hl : ∀ x ∈ l, x < n) (hl2 : l.length ≤ 1000) (q : RetNN H Q (nbrs B l)) : tCl (sp_neighbours K) E (tCons (tVar i) (tCons (tVar j) tNil)) σ H Q := ⟨_, e1, _, e2, c_neigh hh hr hl hl2 q⟩
theorem r_swap (e1 : σ[i]? = some (some (.ref a))) (e2 : σ[j]? = some (some (.ref r))) (e3 : σ[k]? = some (some (.ref s))) (hh : HouseAt K H a B n h) (hr : H r = some (.lst (vNs l))) (hs : H s = some (.lst (vNs m))) (hl : ∀ x ∈ l, x < n) (hm : ∀ x ∈ m, x < n) (hl2 : l.length ≤ 1000) (hm2 : m.length ≤ 1000) (q : ∀ H', Same H H' → Q (.bl (swB B n l m)) H') : tCl (sp_is_swap K) E (tCons (tVar i) (tCons (tVar j) (tCons (tVar k) tNil))) σ H Q := ⟨_, e1, _, e2, _, e3, c_swap hh hr hs hl hm hl2 hm2 q⟩
end
end

theorem nbrs_len {B : Bel} {l r : List Nat} (h : r ∈ nbrs B l) : r.length = l.length := ((mem_nbrs.mp h).agree.length).symm
theorem p__law_listing {K : PySem.W.Frag} : ∀ vs H Q E, sp__law_listing K vs H Q E → vs.length = 3 ∧ t__law_listing K { nx := fun _ H' => Q .non H', rt := Q } (start N__law_listing vs) H := by
  rintro vs H Q E ⟨a, bl, r, l, B, n, h, rfl, hh, hb, hr, hl, hl2, q⟩
  refine ⟨rfl, ?_⟩
  have hnl := nbrs_length B l
  refine r_listL (i := 2) rfl hr fun Z hZ => ?_
  have s1 : Same H (upd H Z (.lst (vNs l))) := sm_new hZ
  refine ⟨_, rfl, _, rfl, bl, r, l, B, n, rfl, hb.mono s1, s1 _ _ hr, hl, by omega, fun D ds H2 nD nds s2 d1 d2 => ?_⟩
  have z2 : H2 Z = some (.lst (vNs l)) := s2 _ _ upd_same
  have s12 := s1.trans s2
  refine r_neigh rfl rfl (hh.mono s12) z2 hl (by omega) fun P ps H3 nP nps nd s3 p1 p2 => ?_
  have s13 := s12.trans s3
  have dd : LLat H2 D (nbrs B l) := ⟨ds, d1, d2⟩
  refine ⟨_, rfl, _, rfl, P, D, nbrs B l, rfl, ⟨ps, p1, p2⟩, dd.mono s3, by omega, fun t ht => by rw [nbrs_len ht]; omega, ?_⟩
  refine ⟨_, rfl, iteF ?_⟩
  have pl : ps.length ≤ 100 := by rw [p2.1]; omega
  refine ⟨_, rfl, P, rfl, ⟨_, SqL.of p1⟩, for_list (xs := ps.map V.ref) (fun i σ H' => ∃ o, Same H2 H' ∧ H' P = some (.lst (ps.map V.ref)) ∧ (∀ p ∈ ps, ∃ xs, H' p = some (.lst xs) ∧ xs.length ≤ 100 + i) ∧ σ = [some (.ref a), some (.ref bl), some (.ref r), some (.ref Z), some (.ref D), some (.ref P), o]) ⟨_, s3, p1, fun p hp => ?_, rfl⟩ (fun i σ H' _ e => ?_) ?_ ?_⟩
  · obtain ⟨t, ht, e⟩ := p2.mem hp
    exact ⟨_, e, by rw [vNs_len, nbrs_len ht]; omega⟩
  · obtain ⟨_, _, e, _⟩ := e
    exact SqL.of e
  · rintro i x σ H4 hx ⟨o, s4, e1, e2, rfl⟩
    have hil : i < ps.length := by
      have := lt_at hx
      rwa [List.length_map] at this
    obtain ⟨p, hp⟩ := at_ex hil
    rw [List.getElem?_map, hp] at hx
    cases Option.some.inj hx
    obtain ⟨xs, e3, e4⟩ := e2 p (mem_at hp)
    have hpP : P ≠ p := fun e => (List.nodup_cons.mp nd).1 (e ▸ mem_at hp)
    refine r_app1 (i := 6) rfl e3 ?_
    refine ⟨_, rfl, apL e3 (by omega) ?_⟩
    refine ⟨_, sm_mut s4 (nps p (mem_at hp)), by rw [upd_ne hpP]; exact e1, fun p' hp' => ?_, rfl⟩
    by_cases e : p' = p
    · subst e
      exact ⟨_, upd_same, by rw [List.length_append]; simp; omega⟩
    · obtain ⟨ys, e5, e6⟩ := e2 p' hp'
      exact ⟨ys, by rw [upd_ne e]; exact e5, by omega⟩
  · rintro σ H4 ⟨o, s4, e1, e2, rfl⟩
    refine r_app1 (i := 5) rfl e1 ?_
    refine ⟨Nat.zero_le _, fun e he => ?_⟩
    have se : Same H4 (upd H4 e (.lst [])) := sm_new he
    refine apL (se _ _ e1) (by rw [List.length_map]; omega) ?_
    have s5 : Same H2 (upd (upd H4 e (.lst [])) P (.lst (ps.map V.ref ++ [.ref e]))) := sm_mut (s4.trans se) nP
    refine r_neigh rfl rfl (hh.mono (s12.trans s5)) (s5 _ _ z2) hl (by omega) fun P2 ps2 H6 nP2 nps2 nd2 s6 g1 g2 => ?_
    have s26 := s5.trans s6
    refine ⟨_, rfl, P2, D, nbrs B l, rfl, ⟨ps2, g1, g2⟩, dd.mono s26, by omega, fun t ht => by rw [nbrs_len ht]; omega, ?_⟩
    refine ⟨_, rfl, iteT ?_⟩
    refine ⟨_, rfl, _, rfl, eqD (s26 _ _ z2) ((s12.trans s26) _ _ hr) ?_⟩
    rw [decide_eq_true rfl]
    exact q H6 (s12.trans s26)

theorem p__law_form {K : PySem.W.Frag} : ∀ vs H Q E, sp__law_form K vs H Q E → vs.length = 3 ∧ t__law_form K { nx := fun _ H' => Q .non H', rt := Q } (start N__law_form vs) H := by
  rintro vs H Q E ⟨a, r, d, l, B, n, h, rfl, hh, ir, hr, hd, hl, hl2, q⟩
  refine ⟨rfl, ?_⟩
  have sl := sf_length (B := B) hl
  have st := sf_lt (B := B) hl
  refine r_listL (i := 1) rfl hr fun Z hZ => ?_
  have s1 : Same H (upd H Z (.lst (vNs l))) := sm_new hZ
  have z1 : (upd H Z (.lst (vNs l))) Z = some (.lst (vNs l)) := upd_same
  refine r_sorted rfl rfl (hh.mono s1) ir z1 hl (by omega) fun T H2 nT s2 t2 => ?_
  have s12 := s1.trans s2
  refine ⟨_, rfl, _, rfl, T, d, sf B n l, rfl, t2, s12 _ _ hd, by omega, ?_⟩
  refine ⟨_, rfl, iteF ?_⟩
  refine r_sorted rfl rfl (hh.mono s12) ir t2 st (by omega) fun T3 H3 nT3 s3 t3 => ?_
  rw [sf_idem hl] at t3
  refine ⟨_, rfl, T3, d, sf B n l, rfl, t3, (s12.trans s3) _ _ hd, by omega, ?_⟩
  refine ⟨_, rfl, iteF ?_⟩
  refine r_app1 (i := 4) rfl (s3 _ _ t2) ?_
  refine ⟨_, rfl, apL (s3 _ _ t2) (by rw [vNs_len]; omega) ?_⟩
  have s4 : Same (upd H Z (.lst (vNs l))) (upd H3 T (.lst (vNs (sf B n l) ++ [.int (-1)]))) := sm_mut (s2.trans s3) nT
  have s14 := s1.trans s4
  refine r_sorted rfl rfl (hh.mono s14) ir (s4 _ _ z1) hl (by omega) fun T5 H5 nT5 s5 t5 => ?_
  refine ⟨_, rfl, T5, d, sf B n l, rfl, t5, (s14.trans s5) _ _ hd, by omega, ?_⟩
  refine ⟨_, rfl, iteT ?_⟩
  refine ⟨_, rfl, _, rfl, eqD (s5 _ _ (s4 _ _ z1)) ((s14.trans s5) _ _ hr) ?_⟩
  rw [decide_eq_true rfl]
  exact q H5 (s14.trans s5)

theorem kp_comm (x y : Nat) (l : List Nat) : kp x y l = kp y x l := by
  unfold kp
  congr 1
  funext z
  rw [Bool.or_comm]
theorem kp_out {x y n : Nat} {l : List Nat} (hl : ∀ z ∈ l, z < n) (hx : n ≤ x) : kp x y l = kp y y l := by
  unfold kp
  apply List.filter_congr
  intro z hz
  have := hl z hz
  have e : (z == x) = false := beq_eq_false_iff_ne.mpr (by omega)
  rw [e, Bool.false_or, Bool.or_self]
theorem agree_swB {B : Bel} {n : Nat} (bd : ∀ v w, B v w = true → v < n ∧ w < n) {l m : List Nat} (hl : ∀ x ∈ l, x < n) (hm : ∀ x ∈ m, x < n) : swB B n l m = true ↔ Agree B l m := by
  rw [swB_iff]
  constructor
  · rintro ⟨h1, h2⟩ x y e
    have hc : ∀ z, l.count z = m.count z := fun z => by
      by_cases hz : z < n
      · have a1 := cnts_at (l := l) hz
        rw [h1, cnts_at hz] at a1
        exact (Option.some.inj a1).symm
      · rw [List.count_eq_zero_of_not_mem fun q => hz (hl z q), List.count_eq_zero_of_not_mem fun q => hz (hm z q)]
    by_cases exy : x = y
    · subst exy
      rw [kp_self, kp_self, hc]
    · cases b1 : B x y with
      | true => exact h2 x (bd _ _ b1).1 y (mem_belRow.mpr ⟨(bd _ _ b1).2, b1⟩)
      | false =>
        cases b2 : B y x with
        | true =>
          rw [kp_comm x y l, kp_comm x y m]
          exact h2 y (bd _ _ b2).1 x (mem_belRow.mpr ⟨(bd _ _ b2).2, b2⟩)
        | false =>
          rw [apart_iff.mpr ⟨exy, b1, b2⟩] at e
          cases e
  · intro h
    refine ⟨?_, fun u hu w hw => h u w ?_⟩
    · unfold cnts
      apply List.map_congr_left
      intro x _
      exact h.count x
    · cases e : apart B u w with
      | false => rfl
      | true =>
        have := (apart_iff.mp e).2.1
        rw [(mem_belRow.mp hw).2] at this
        cases this
theorem agree_agB {B : Bel} {n : Nat} {l m : List Nat} (hl : ∀ x ∈ l, x < n) (hm : ∀ x ∈ m, x < n) : agB B n l m = true ↔ Agree B l m := by
  rw [agB_iff]
  constructor
  · intro h
    have self : ∀ y, kp y y l = kp y y m := fun y => by
      by_cases hy : y < n
      · rcases h y hy y (Nat.le_refl y) with q | q
        · rw [apart_self] at q
          cases q
        · exact q
      · have e : ∀ k : List Nat, (∀ z ∈ k, z < n) → kp y y k = [] := fun k hk => by
          unfold kp
          rw [List.filter_eq_nil_iff]
          intro z hz q
          rw [Bool.or_self, beq_iff_eq] at q
          have := hk z hz
          omega
        rw [e l hl, e m hm]
    intro x y e
    by_cases hx : x < n
    · by_cases hy : y < n
      · rcases Nat.le_total y x with hxy | hxy
        · rcases h x hx y hxy with q | q
          · rw [q] at e
            cases e
          · exact q
        · rcases h y hy x hxy with q | q
          · rw [apart_symm q] at e
            cases e
          · rw [kp_comm x y l, kp_comm x y m]
            exact q
      · rw [kp_comm x y l, kp_comm x y m, kp_out hl (by omega), kp_out hm (by omega)]
        exact self x
    · rw [kp_out hl (by omega), kp_out hm (by omega)]
      exact self y
  · intro h x _ y _
    cases e : apart B x y with
    | true => exact .inl rfl
    | false => exact .inr (h x y e)
theorem bool_of {a k : Bool} {P : Prop} (h1 : a = true ↔ P) (h2 : k = true ↔ P) : a = k := by
  rw [Bool.eq_iff_iff]
  exact h1.trans h2.symm

theorem p__law_pair {K : PySem.W.Frag} : ∀ vs H Q E, sp__law_pair K vs H Q E → vs.length = 4 ∧ t__law_pair K { nx := fun _ H' => Q .non H', rt := Q } (start N__law_pair vs) H := by
  rintro vs H Q E ⟨a, r1, r2, l, m, k, B, n, h, rfl, hh, ir, h1, h2, hl, hm, hl2, hm2, hk, q⟩
  refine ⟨rfl, ?_⟩
  have e1 : swB B n l m = k := bool_of (agree_swB hh.bd hl hm) hk
  have e2 : swB B n m l = k := bool_of ((agree_swB hh.bd hm hl).trans ⟨fun x => x.symm, fun x => x.symm⟩) hk
  have e3 : decide (sf B n l = sf B n m) = k := bool_of (decide_eq_true_iff.trans (sf_iff hl hm)) hk
  refine r_listL (i := 1) rfl h1 fun Z hZ => ?_
  have s1 : Same H (upd H Z (.lst (vNs l))) := sm_new hZ
  refine r_listL (i := 2) rfl (s1 _ _ h2) fun Y hY => ?_
  have s2 : Same (upd H Z (.lst (vNs l))) (upd (upd H Z (.lst (vNs l))) Y (.lst (vNs m))) := sm_new hY
  have s := s1.trans s2
  have z1 : (upd (upd H Z (.lst (vNs l))) Y (.lst (vNs m))) Z = some (.lst (vNs l)) := s2 _ _ upd_same
  have y1 : (upd (upd H Z (.lst (vNs l))) Y (.lst (vNs m))) Y = some (.lst (vNs m)) := upd_same
  refine r_swap rfl rfl rfl (hh.mono s) z1 y1 hl hm (by omega) (by omega) fun H3 s3 => ?_
  refine r_swap rfl rfl rfl (hh.mono (s.trans s3)) (s3 _ _ y1) (s3 _ _ z1) hm hl (by omega) (by omega) fun H4 s4 => ?_
  rw [e1, e2]
  have s34 := s3.trans s4
  refine r_isiBB (i := 6) rfl ⟨_, rfl, iteF ?_⟩
  refine r_isiBB (i := 7) rfl ⟨_, rfl, iteF ?_⟩
  refine ⟨_, rfl, _, rfl, neB ⟨_, rfl, ?_⟩⟩
  rw [bne_same]
  refine iteF ⟨_, rfl, _, rfl, neB ⟨_, rfl, ?_⟩⟩
  rw [bne_same]
  refine iteF ?_
  refine r_sorted rfl rfl (hh.mono (s.trans s34)) ir (s34 _ _ z1) hl (by omega) fun T5 H5 nT5 s5 t5 => ?_
  refine r_sorted rfl rfl (hh.mono (s.trans (s34.trans s5))) ir (s5 _ _ (s34 _ _ y1)) hm (by omega) fun T6 H6 nT6 s6 t6 => ?_
  have s36 := s34.trans (s5.trans s6)
  refine eqD (s6 _ _ t5) t6 ?_
  rw [e3]
  refine ⟨_, rfl, neB ⟨_, rfl, ?_⟩⟩
  rw [bne_same]
  refine iteF ?_
  refine ⟨_, rfl, _, rfl, eqD (s36 _ _ z1) ((s.trans s36) _ _ h1) ?_⟩
  rw [decide_eq_true rfl]
  refine ⟨_, rfl, iteT ?_⟩
  refine ⟨_, rfl, _, rfl, eqD (s36 _ _ y1) ((s.trans s36) _ _ h2) ?_⟩
  rw [decide_eq_true rfl]
  exact q H6 (s.trans s36)

theorem playM_snoc {B : Bel} {h : Int} {n : Nat} {g : Bool} {w : Nat} : ∀ {l : List Nat} {s t : Nat → Int}, playM B h n g l s = some t → playM B h n g (l ++ [w]) s = if okm B n g t w = true then some (mv B h t w) else none
  | [], s, t, e => by
    cases Option.some.inj e
    rfl
  | v :: r, s, t, e => by
    unfold playM at e
    show (if okm B n g s v = true then playM B h n g (r ++ [w]) (mv B h s v) else none) = _
    by_cases o : okm B n g s v = true
    · rw [if_pos o] at e ⊢
      exact playM_snoc e
    · rw [if_neg o] at e
      cases e

theorem p__law_played {K : PySem.W.Frag} : ∀ vs H Q E, sp__law_played K vs H Q E → vs.length = 3 ∧ t__law_played K { nx := fun _ H' => Q .non H', rt := Q } (start N__law_played vs) H := by
  rintro vs H Q E ⟨p, r1, r2, l, m, B, n, h, s, rfl, ⟨⟨ha, bl, sa, w1, hh, hbl, hs⟩, ir⟩, h1, h2, hl, hl2, ag, q⟩
  refine ⟨rfl, ?_⟩
  have n16 := hh.n16
  have h10 := hh.h10
  have hm : ∀ x ∈ m, x < n := fun x hx => hl x ((ag.mem x).mpr hx)
  have hm2 : m.length ≤ 100 := by rw [← ag.length]; exact hl2
  refine ⟨_, rfl, p, _, rfl, SqT.of w1, rfl, _, _, rfl, _, _, rfl, _, _, rfl, _, _, rfl, rfl, ?_⟩
  refine ⟨n_line (by show 2 ≤ _; decide), fun G hG => ?_⟩
  have sG : Same H (upd H G (.tup [.bl false, .bl true])) := sm_new hG
  refine ⟨G, rfl, ⟨_, SqT.of upd_same⟩, for_tup (xs := [V.bl false, V.bl true]) (fun i σ H' => ∃ o7 o8 o9, (Same H H' ∧ H' G = some (.tup [.bl false, .bl true])) ∧ σ = [some (.ref p), some (.ref r1), some (.ref r2), some (.ref ha), some (.int h), some (.ref bl), some (.ref sa), o7, o8, o9]) ⟨_, _, _, ⟨sG, upd_same⟩, rfl⟩ (fun i σ H' _ e => ?_) ?_ ?_⟩
  · obtain ⟨_, _, _, e, _⟩ := e
    exact SqT.of e.2
  · rintro i x σ H1 hx ⟨o7, o8, o9, ⟨s1, g1⟩, rfl⟩
    obtain ⟨g, rfl⟩ : ∃ g, x = V.bl g := by
      have := mem_at hx
      rcases List.mem_cons.mp this with e | e
      · exact ⟨_, e⟩
      · exact ⟨true, List.mem_singleton.mp e⟩
    refine ⟨_, rfl, ?_⟩
    refine ⟨_, rfl, r1, rfl, ⟨_, SqL.of (s1 _ _ h1)⟩, for_list (xs := vNs l) (fun j σ H' => ∃ (x : V) (o9 : Option V), Same H1 H' ∧ (x = .non ∨ ∃ lp si, x = .ref lp ∧ StOk H' lp n h si ∧ playM B h n g (l.take j) s = some si) ∧ σ = [some (.ref p), some (.ref r1), some (.ref r2), some (.ref ha), some (.int h), some (.ref bl), some (.ref sa), some (.bl g), some x, o9]) ⟨_, _, Same.refl _, .inr ⟨sa, s, rfl, hs.mono s1, rfl⟩, rfl⟩ (fun j σ H' _ e => ?_) ?_ ?_⟩
    · obtain ⟨_, _, e, _⟩ := e
      exact SqL.of (e _ _ (s1 _ _ h1))
    · rintro j x σ H2 hx ⟨y, o9, s2, hy, rfl⟩
      obtain ⟨w, hw, rfl⟩ := of_vNs hx
      have wn := hl w (mem_at hw)
      rcases hy with rfl | ⟨lp, si, rfl, hst, hpl⟩
      · refine ⟨_, rfl, ⟨rfl, _, rfl, ?_⟩⟩
        refine iteF (iteF ?_)
        refine ⟨_, rfl, ⟨rfl, _, rfl, ?_⟩⟩
        exact iteF ⟨_, _, s2, .inl rfl, rfl⟩
      · refine ⟨_, rfl, ⟨rfl, _, rfl, ?_⟩⟩
        refine iteT ?_
        refine ⟨_, rfl, _, rfl, _, rfl, _, rfl, bl, lp, w, g, B, n, h, si, rfl, hbl.mono (s1.trans s2), hst, wn, n16.2, fun tp ds H3 s3 htp hds => ?_⟩
        refine ⟨(by decide), fun e he => ?_⟩
        have se : Same H3 (upd H3 e (.tup [])) := sm_new he
        refine neT0 (se _ _ htp) upd_same ⟨_, rfl, ?_⟩
        rw [hds]
        have s4 := s3.trans se
        have hsn := playM_snoc (w := w) hpl
        rw [← take_at hw] at hsn
        cases ok : okm B n g si w with
        | true =>
          rw [ok, if_pos rfl] at hsn
          refine iteF ?_
          refine ⟨_, rfl, ⟨rfl, _, rfl, ?_⟩⟩
          refine iteT ?_
          refine ⟨_, rfl, _, rfl, _, rfl, _, rfl, bl, lp, w, B, n, h, si, rfl, hbl.mono (s1.trans (s2.trans s4)), ir, n16.2, h10.1, hst.mono s4, wn, (okm_iff.mp ok).1, fun z H5 hz s5 hq => ?_⟩
          exact ⟨_, _, s2.trans (s4.trans s5), .inr ⟨z, _, rfl, ⟨hq, mv_nonneg (by omega) hst.lo (okm_iff.mp ok).1, mv_lt hst.hi⟩, hsn⟩, rfl⟩
        | false =>
          refine iteT ?_
          refine ⟨_, rfl, ⟨rfl, _, rfl, ?_⟩⟩
          exact iteF ⟨_, _, s2.trans s4, .inl rfl, rfl⟩
    · rintro σ H2 ⟨y, o9, s2, hy, rfl⟩
      have s12 := s1.trans s2
      rcases hy with rfl | ⟨lp, si, rfl, hst, hpl⟩
      · refine ⟨_, rfl, ⟨rfl, _, rfl, ?_⟩⟩
        exact iteF ⟨_, _, _, ⟨s12, s2 _ _ g1⟩, rfl⟩
      · rw [vNs_len, List.take_length] at hpl
        have hpm : playM B h n g m s = some si := play_agree (fun x y e => (hh.bd x y e).2) h10.1 hs.lo ag hpl
        refine ⟨_, rfl, ⟨rfl, _, rfl, ?_⟩⟩
        refine iteT ?_
        refine ⟨_, rfl, _, rfl, ?_⟩
        refine r_listL (i := 2) rfl (s12 _ _ h2) fun Z hZ => ?_
        have sZ := sm_new (o := .lst (vNs m)) hZ
        have s2Z := s12.trans sZ
        refine ⟨_, rfl, rfl, rfl, ha, sa, Z, g, m, B, n, h, s, si, rfl, hh.mono s2Z, ir, hs.mono s2Z, upd_same, hm, by omega, hpm, fun H4 s4 => ?_⟩
        refine ⟨rfl, _, rfl, ?_⟩
        refine iteF ?_
        have s5 := s2Z.trans s4
        refine ⟨_, rfl, _, rfl, ?_⟩
        refine r_listL (i := 2) rfl (s5 _ _ h2) fun Y hY => ?_
        have sY := sm_new (o := .lst (vNs m)) hY
        have s5Y := s5.trans sY
        refine ⟨_, rfl, rfl, rfl, ha, sa, Y, g, m, B, n, h, s, si, rfl, hh.mono s5Y, ir, hs.mono s5Y, upd_same, hm, by omega, hpm, fun pp H6 s6 hpp => ?_⟩
        have s26 := sZ.trans (s4.trans (sY.trans s6))
        refine ⟨_, rfl, pp, lp, n, si, rfl, hpp.at_, (hst.mono s26).at_, n16.2, ?_⟩
        refine ⟨_, rfl, iteF ?_⟩
        exact ⟨_, _, _, ⟨s12.trans s26, s26 _ _ (s2 _ _ g1)⟩, rfl⟩
  · rintro σ H1 ⟨o7, o8, o9, ⟨s1, g1⟩, rfl⟩
    exact q H1 s1
end Hue
end
section
set_option maxHeartbeats 4000000
namespace Hue
open PySem PySem.Spec PyProof.Rows L2
theorem swaps_small {B : Bel} {l : List Nat} (hl2 : l.length ≤ 5) : (swapsOf B l).length ≤ 10000000 := by
  obtain ⟨hS, hRw⟩ := turns_len B l hl2 10 (by decide)
  have I := bfs_turns B l 10
  have h := foldl_addRow_len B (turns B 10 ([l], [l])).2 (fun t ht => by rw [← (I.sub t ht).length]; exact hl2) ((turns B 10 ([l], [l])).1, [])
  have e : swapsOf B l = ((turns B 10 ([l], [l])).2.foldl (addRow B) ((turns B 10 ([l], [l])).1, [])).1 := rfl
  rw [e]
  have e2 : (((turns B 10 ([l], [l])).1, ([] : Runs)) : Runs × Runs).1.length = (turns B 10 ([l], [l])).1.length := rfl
  have e3 : 4 ^ 10 = 1048576 := by decide
  omega
section
variable {K : PySem.W.Frag} {σ : L2.St} {H : Hp} {Q : VK} {i j k m' : Nat} {a bl p r1 r2 d : Addr} {l m : List Nat} {B : Bel} {n : Nat} {h : Int} {s : Nat → Int} {kb : Bool}
theorem r_form (e1 : σ[i]? = some (some (.ref a))) (e2 : σ[j]? = some (some (.ref r1))) (e3 : σ[k]? = some (some (.ref d))) (hh : HouseAt K H a B n h) (ir : ∀ w, B w w = false) (hr : H r1 = some (.lst (vNs l))) (hd : H d = some (.lst (vNs (sf B n l)))) (hl : ∀ x ∈ l, x < n) (hl2 : l.length ≤ 100) (q : ∀ H', Same H H' → Q (.bl true) H') : tCl (sp__law_form K) E0 (tCons (tVar i) (tCons (tVar j) (tCons (tVar k) tNil))) σ H Q :=
  ⟨_, e1, _, e2, _, e3, a, r1, d, l, B, n, h, rfl, hh, ir, hr, hd, hl, hl2, q⟩
theorem r_played (e1 : σ[i]? = some (some (.ref p))) (e2 : σ[j]? = some (some (.ref r1))) (e3 : σ[k]? = some (some (.ref r2))) (hw : WorldAt K H p B n h s) (h1 : H r1 = some (.lst (vNs l))) (h2 : H r2 = some (.lst (vNs m))) (hl : ∀ x ∈ l, x < n) (hl2 : l.length ≤ 100) (ag : Agree B l m) (q : ∀ H', Same H H' → Q (.bl true) H') : tCl (sp__law_played K) E0 (tCons (tVar i) (tCons (tVar j) (tCons (tVar k) tNil))) σ H Q :=
  ⟨_, e1, _, e2, _, e3, p, r1, r2, l, m, B, n, h, s, rfl, hw, h1, h2, hl, hl2, ag, q⟩
theorem r_listing (e1 : σ[i]? = some (some (.ref a))) (e2 : σ[j]? = some (some (.ref bl))) (e3 : σ[k]? = some (some (.ref r1))) (hh : HouseAt K H a B n h) (hb : LLat H bl (belRows B n)) (hr : H r1 = some (.lst (vNs l))) (hl : ∀ x ∈ l, x < n) (hl2 : l.length ≤ 100) (q : ∀ H', Same H H' → Q (.bl true) H') : tCl (sp__law_listing K) E0 (tCons (tVar i) (tCons (tVar j) (tCons (tVar k) tNil))) σ H Q :=
  ⟨_, e1, _, e2, _, e3, a, bl, r1, l, B, n, h, rfl, hh, hb, hr, hl, hl2, q⟩
theorem r_pairT (e1 : σ[i]? = some (some (.ref a))) (e2 : σ[j]? = some (some (.ref r1))) (e3 : σ[k]? = some (some (.ref r2))) (hh : HouseAt K H a B n h) (ir : ∀ w, B w w = false) (h1 : H r1 = some (.lst (vNs l))) (h2 : H r2 = some (.lst (vNs m))) (hl : ∀ x ∈ l, x < n) (hl2 : l.length ≤ 100) (ag : Agree B l m) (q : ∀ H', Same H H' → Q (.bl true) H') : tCl (sp__law_pair K) E0 (tCons (tVar i) (tCons (tVar j) (tCons (tVar k) (tCons (tC (.bl true)) tNil)))) σ H Q :=
  ⟨_, e1, _, e2, _, e3, a, r1, r2, l, m, true, B, n, h, rfl, hh, ir, h1, h2, hl, fun x hx => hl x ((ag.mem x).mpr hx), hl2, by rw [← ag.length]; exact hl2, ⟨fun _ => ag, fun _ => rfl⟩, q⟩
end

theorem p__law_short {K : PySem.W.Frag} : ∀ vs H Q E, sp__law_short K vs H Q E → vs.length = 3 ∧ t__law_short K { nx := fun _ H' => Q .non H', rt := Q } (start N__law_short vs) H := by
  rintro vs H Q E ⟨b, p, r, l, B, n, h, s, rfl, hb, hw, hr, hl, hl2, q⟩
  refine ⟨rfl, ?_⟩
  have hw0 := hw
  obtain ⟨⟨ha, bl, sa, w1, hh, hbl, hs⟩, ir⟩ := hw
  have n16 := hh.n16
  refine ⟨_, rfl, p, _, rfl, SqT.of (rm_le _ _ _ _ w1), rfl, _, _, rfl, _, _, rfl, _, _, rfl, _, _, rfl, rfl, ?_⟩
  refine ⟨_, rfl, _, rfl, bl, r, l, B, n, rfl, hbl.mono (rm_le _ _), rm_le _ _ _ _ hr, hl, hl2, fun S as H1 nS nas s1 S1 S2 => ?_⟩
  have x1 := Bx.of hb s1
  have smp := swaps_small (B := B) hl2
  have mem : ∀ t ∈ swapsOf B l, Agree B l t := fun t ht => (mem_swapsOf hl2).mp ht
  have hlm : l ∈ swapsOf B l := (mem_swapsOf hl2).mpr (.refl B l)
  have pos : 0 < (swapsOf B l).length := List.length_pos_of_mem hlm
  have S1' : rm b H1 S = some (.lst (as.map V.ref)) := rm_of S1 (hb.ne nS)
  have S2' : Rows (rm b H1) as (swapsOf B l) := ⟨S2.1, fun i p t a1 a2 => rm_of (S2.2 i p t a1 a2) (hb.ne (nas p (mem_at a1)))⟩
  refine ⟨_, rfl, S, as, swapsOf B l, rfl, SqL.of S1, S2, (fun e => by rw [e] at hlm; cases hlm), by omega, (fun t ht => by rw [← (mem t ht).length]; omega), fun i d t e1 e2 hmin => ?_⟩
  have ht : t = sf B n l := sf_least hl (mem t (mem_at e2)) fun m hm => hmin m ((mem_swapsOf hl2).mpr hm)
  subst ht
  have hd1 : rm b H1 d = some (.lst (vNs (sf B n l))) := S2'.2 i d _ e1 e2
  refine r_form (i := 3) (j := 2) (k := 8) rfl rfl rfl (hh.mono ((rm_le _ _).trans s1)) ir (x1.at hr) (rm_le _ _ _ _ hd1) hl (by omega) fun H2 s2 => ?_
  refine ⟨_, rfl, iteF ?_⟩
  have x2 := x1.grow s2
  have d2 : rm b H2 d = some (.lst (vNs (sf B n l))) := rm_same s2 _ _ hd1
  refine r_played (i := 1) (j := 2) (k := 8) rfl rfl rfl ((hw0.mono x2.1).mono (rm_le _ _)) (x2.at hr) (rm_le _ _ _ _ d2) hl (by omega) (sf_agree hl) fun H3 s3 => ?_
  refine ⟨_, rfl, iteF ?_⟩
  have x3 := x2.grow s3
  have y3 : Same (rm b H1) (rm b H3) := (rm_same s2).trans (rm_same s3)
  refine ⟨_, rfl, by decide, by decide, for_range (lo := 0) (n := 2) (fun i σ H' => ∃ o9 o10 o11, Bx b H H' ∧ Same (rm b H1) (rm b H') ∧ σ = [some (.ref b), some (.ref p), some (.ref r), some (.ref ha), some (.int h), some (.ref bl), some (.ref sa), some (.ref S), some (.ref d), o9, o10, o11]) ⟨_, _, _, x3, y3, rfl⟩ ?_ ?_⟩
  · rintro i σ H4 hi ⟨o9, o10, o11, x4, y4, rfl⟩
    have len4 : (as.map V.ref).length = (swapsOf B l).length := by rw [List.length_map, S2.1]
    refine ⟨_, rfl, _, rfl, ?_⟩
    refine r_lenL (i := 7) rfl (rm_le _ _ _ _ (y4 _ _ S1')) ?_
    rw [len4]
    refine ⟨b, _, rfl, x4.2, by omega, by omega, fun k H5 hk hx5 => ?_⟩
    have x5 := x4.trans hx5
    have y5 := y4.trans hx5.1
    obtain ⟨t, htk⟩ := at_ex (l := swapsOf B l) (i := k) (by omega)
    obtain ⟨tp, tp1, tp2⟩ := S2'.get htk
    have agt := mem t (mem_at htk)
    have tn : ∀ x ∈ t, x < n := fun x hx => hl x ((agt.mem x).mpr hx)
    have tl : t.length ≤ 5 := by rw [← agt.length]; exact hl2
    refine ixL (rm_le _ _ _ _ (y5 _ _ S1')) (by rw [List.getElem?_map, tp1]; rfl) ?_
    have esf : sf B n t = sf B n l := (sf_congr agt).symm
    refine r_form (i := 3) (j := 10) (k := 8) rfl rfl rfl ((hh.mono x5.1).mono (rm_le _ _)) ir (rm_le _ _ _ _ (y5 _ _ tp2)) (by rw [esf]; exact rm_le _ _ _ _ (y5 _ _ hd1)) tn (by omega) fun H6 s6 => ?_
    refine ⟨_, rfl, iteF ?_⟩
    have x6 := x5.grow s6
    have y6 := y5.trans (rm_same s6)
    refine r_pairT (i := 3) (j := 2) (k := 10) rfl rfl rfl ((hh.mono x6.1).mono (rm_le _ _)) ir (x6.at hr) (rm_le _ _ _ _ (y6 _ _ tp2)) hl (by omega) agt fun H7 s7 => ?_
    refine ⟨_, rfl, iteF ?_⟩
    have x7 := x6.grow s7
    have y7 := y6.trans (rm_same s7)
    refine r_listing (i := 3) (j := 5) (k := 10) rfl rfl rfl ((hh.mono x7.1).mono (rm_le _ _)) ((hbl.mono x7.1).mono (rm_le _ _)) (rm_le _ _ _ _ (y7 _ _ tp2)) tn (by omega) fun H8 s8 => ?_
    refine ⟨_, rfl, iteF ?_⟩
    have x8 := x7.grow s8
    have y8 := y7.trans (rm_same s8)
    refine r_played (i := 1) (j := 2) (k := 10) rfl rfl rfl ((hw0.mono x8.1).mono (rm_le _ _)) (x8.at hr) (rm_le _ _ _ _ (y8 _ _ tp2)) hl (by omega) agt fun H9 s9 => ?_
    refine ⟨_, rfl, iteF ?_⟩
    have x9 := x8.grow s9
    have y9 := y8.trans (rm_same s9)
    refine ⟨_, rfl, _, rfl, _, rfl, b, bl, r, l, B, n, rfl, x9.2, hbl.mono x9.1, x9.rat hr, hl, n16.1, n16.2, by omega, fun z m Hz hm hm2 hxz hz => ?_⟩
    have xz := x9.trans hxz
    have yz := y9.trans hxz.1
    have zz := rm_le _ _ _ _ hz
    refine ⟨_, rfl, _, rfl, _, rfl, _, rfl, _, rfl, dN m, (swapsOf B l).map dN, dp_N zz, dp_NN ⟨as, rm_le _ _ _ _ (yz _ _ S1'), (S2'.mono yz).mono (rm_le _ _)⟩, sh_N m, sh_NN _, ?_⟩
    rw [any_NN]
    refine ⟨ha, r, z, l, m, _, B, n, h, rfl, (hh.mono xz.1).mono (rm_le _ _), ir, xz.at hr, zz, hl, hm, by omega, hm2, ?_, fun H10 s10 => ?_⟩
    · rw [decide_eq_true_eq]
      exact mem_swapsOf hl2
    · exact ⟨_, rfl, iteF ⟨_, _, _, xz.grow s10, yz.trans (rm_same s10), rfl⟩⟩
  · rintro σ H4 ⟨o9, o10, o11, x4, y4, rfl⟩
    exact r_listing (i := 3) (j := 5) (k := 2) rfl rfl rfl ((hh.mono x4.1).mono (rm_le _ _)) ((hbl.mono x4.1).mono (rm_le _ _)) (x4.at hr) hl (by omega) fun H5 s5 => q H5 (x4.grow s5)

theorem p__law_long {K : PySem.W.Frag} : ∀ vs H Q E, sp__law_long K vs H Q E → vs.length = 3 ∧ t__law_long K { nx := fun _ H' => Q .non H', rt := Q } (start N__law_long vs) H := by
  rintro vs H Q E ⟨b, p, r, l, B, n, h, s, rfl, hb, hw, hr, hl, hl2, q⟩
  refine ⟨rfl, ?_⟩
  have hw0 := hw
  obtain ⟨⟨ha, bl, sa, w1, hh, hbl, hs⟩, ir⟩ := hw
  have n16 := hh.n16
  refine ⟨_, rfl, p, _, rfl, SqT.of (rm_le _ _ _ _ w1), rfl, _, _, rfl, _, _, rfl, _, _, rfl, _, _, rfl, rfl, ?_⟩
  refine ⟨_, rfl, _, rfl, bl, r, l, B, n, rfl, hbl.mono (rm_le _ _), rm_le _ _ _ _ hr, hl, by omega, n16.2, fun d H1 nd s1 hd => ?_⟩
  have x1 := Bx.of hb s1
  have hd1 : rm b H1 d = some (.lst (vNs (sf B n l))) := rm_of hd (hb.ne nd)
  refine r_form (i := 3) (j := 2) (k := 7) rfl rfl rfl (hh.mono ((rm_le _ _).trans s1)) ir (x1.at hr) (rm_le _ _ _ _ hd1) hl (by omega) fun H2 s2 => ?_
  refine ⟨_, rfl, iteF ?_⟩
  have x2 := x1.grow s2
  have d2 : rm b H2 d = some (.lst (vNs (sf B n l))) := rm_same s2 _ _ hd1
  refine r_played (i := 1) (j := 2) (k := 7) rfl rfl rfl ((hw0.mono x2.1).mono (rm_le _ _)) (x2.at hr) (rm_le _ _ _ _ d2) hl (by omega) (sf_agree hl) fun H3 s3 => ?_
  refine ⟨_, rfl, iteF ?_⟩
  have x3 := x2.grow s3
  refine ⟨_, rfl, _, rfl, _, rfl, b, bl, r, l, B, n, rfl, x3.2, hbl.mono x3.1, x3.rat hr, hl, by omega, fun t m H4 agm hx4 ht => ?_⟩
  have x4 := x3.trans hx4
  have mn : ∀ x ∈ m, x < n := fun x hx => hl x ((agm.mem x).mpr hx)
  have ml : m.length ≤ 40 := by rw [← agm.length]; exact hl2
  refine r_pairT (i := 3) (j := 2) (k := 8) rfl rfl rfl ((hh.mono x4.1).mono (rm_le _ _)) ir (x4.at hr) (rm_le _ _ _ _ ht) hl (by omega) agm fun H5 s5 => ?_
  refine ⟨_, rfl, iteF ?_⟩
  have x5 := x4.grow s5
  have t5 := rm_same s5 _ _ ht
  refine r_played (i := 1) (j := 2) (k := 8) rfl rfl rfl ((hw0.mono x5.1).mono (rm_le _ _)) (x5.at hr) (rm_le _ _ _ _ t5) hl (by omega) agm fun H6 s6 => ?_
  refine ⟨_, rfl, iteF ?_⟩
  have x6 := x5.grow s6
  refine ⟨_, rfl, by decide, by decide, for_range (lo := 0) (n := 2) (fun i σ H' => ∃ o9 o10, Bx b H H' ∧ σ = [some (.ref b), some (.ref p), some (.ref r), some (.ref ha), some (.int h), some (.ref bl), some (.ref sa), some (.ref d), some (.ref t), o9, o10]) ⟨_, _, x6, rfl⟩ ?_ ?_⟩
  · rintro i σ H7 hi ⟨o9, o10, x7, rfl⟩
    refine ⟨_, rfl, _, rfl, _, rfl, b, bl, r, l, B, n, rfl, x7.2, hbl.mono x7.1, x7.rat hr, hl, n16.1, n16.2, by omega, fun z w Hz hwn hw2 hxz hz => ?_⟩
    have xz := x7.trans hxz
    have zz := rm_le _ _ _ _ hz
    refine ⟨_, rfl, _, rfl, _, rfl, _, rfl, _, rfl, _, rfl, bl, r, z, l, w, B, n, rfl, (hbl.mono xz.1).mono (rm_le _ _), xz.at hr, zz, by omega, by omega, n16.2, fun H9 s9 => ?_⟩
    have x9 := xz.grow s9
    refine ⟨ha, r, z, l, w, _, B, n, h, rfl, (hh.mono x9.1).mono (rm_le _ _), ir, x9.at hr, s9 _ _ zz, hl, hwn, by omega, hw2, agree_agB hl hwn, fun H10 s10 => ?_⟩
    exact ⟨_, rfl, iteF ⟨_, _, x9.grow s10, rfl⟩⟩
  · rintro σ H7 ⟨o9, o10, x7, rfl⟩
    exact r_listing (i := 3) (j := 5) (k := 2) rfl rfl rfl ((hh.mono x7.1).mono (rm_le _ _)) ((hbl.mono x7.1).mono (rm_le _ _)) (x7.at hr) hl (by omega) fun H8 s8 => q H8 (x7.grow s8)
end Hue
end
section
set_option maxHeartbeats 4000000
namespace Hue
open PySem PySem.Spec PyProof.Rows L2
theorem str_ints : ∀ k : Nat, k < 210 → PyData.strOk (reprV (.int ((k : Int) - 10))) = true := by decide +kernel
theorem str_bt : PyData.strOk (reprV (.bl true)) = true := by decide +kernel
theorem str_bf : PyData.strOk (reprV (.bl false)) = true := by decide +kernel
theorem str_n : PyData.strOk (reprV .non) = true := by decide +kernel
theorem str_0 : PyData.strOk (reprV (.str "0")) = true := by decide +kernel
theorem str_t : PyData.strOk ((PyData.tuple [.int 0]).shown) = true := by decide +kernel
theorem odd_str {H : Hp} {n : Nat} {x : V} (o : OddV H n x) : PyData.strOk (reprV x) = true := by
  cases o with
  | int i h h' =>
    have := str_ints (i + 10).toNat (by omega)
    have e : (((i + 10).toNat : Nat) : Int) - 10 = i := by omega
    rwa [e] at this
  | bl b => cases b with
    | true => exact str_bt
    | false => exact str_bf
  | non => exact str_n
  | str => exact str_0
  | tup h => exact str_t
/-- (1, text) -/
def dF (s : Str) : PyData := .tuple [.int 1, .str s]
theorem dp_F {K : PySem.W.Frag} {H : Hp} {p : Addr} {s : Str} (h : H p = some (.tup [.int 1, .str s])) : Dp K H (.ref p) (dF s) := .tup (SqT.of h) (.cons (.int 1) (.cons (.str s) .nil))
theorem sh_F {s : Str} (h : PyData.strOk s = true) : SeqAt.shaped (dF s) = true := by
  refine shaped_of ?_ ?_
  · show PyData.canLay0 (.tuple [.int 1, .str s]) = true
    simp [PyData.canLay0, PyData.canLayAll0, h]
  · show PyData.depth (.tuple [.int 1, .str s]) ≤ 64
    simp [PyData.depth, PyData.depthAll]
theorem eqv_F (s : Str) : PyData.eqv (dF s) (dF s) = true := by
  unfold dF
  simp [PyData.eqv, PyData.eqvAll]
theorem neF {K : PySem.W.Frag} {H : Hp} {p q : Addr} {s : Str} {Q : VK} (hs : PyData.strOk s = true) (h1 : H p = some (.tup [.int 1, .str s])) (h2 : H q = some (.tup [.int 1, .str s])) (k : Q (.bl false) H) : rNeD K (.ref p) (.ref q) H Q :=
  ⟨_, _, dp_F h1, dp_F h2, sh_F hs, sh_F hs, by rw [eqv_F]; exact k⟩
theorem eqF {K : PySem.W.Frag} {H : Hp} {p q : Addr} {s : Str} {Q : VK} (hs : PyData.strOk s = true) (h1 : H p = some (.tup [.int 1, .str s])) (h2 : H q = some (.tup [.int 1, .str s])) (k : Q (.bl true) H) : rEqD K (.ref p) (.ref q) H Q :=
  ⟨_, _, dp_F h1, dp_F h2, sh_F hs, sh_F hs, by rw [eqv_F]; exact k⟩
theorem find_app {α : Type} {f : α → Bool} {l m : List α} (h : l.find? f = none) : (l ++ m).find? f = m.find? f := by
  rw [List.find?_append, h]
  rfl
theorem bad_app {n : Nat} {l : List Nat} {xs : List V} (h : ∀ x ∈ l, x < n) : badV n (vNs l ++ xs) = badV n xs := by
  have := bad_none h
  unfold badV at this ⊢
  exact find_app this
theorem bad_head {n : Nat} {x : V} {xs : List V} (h : isLampV n x = false) : badV n (x :: xs) = some x := by
  rw [badV_cons, h]
  exact if_neg Bool.false_ne_true

section
variable {K : PySem.W.Frag} {σ : L2.St} {H : Hp} {n : Nat} {h : Int} {a : Addr} {B : Bel} {x : V} {Q : VK}
/-- the call of the fault's test, and the two answers that are the same -/
theorem c_fault {r1 r2 : Addr} {xs ys : List V} {way : Int} (hh : HouseAt K H a B n h) (h1 : H r1 = some (.lst xs)) (h2 : H r2 = some (.lst ys)) (p1 : ∀ x ∈ xs, PlV H x) (p2 : ∀ x ∈ ys, PlV H x) (l1 : xs.length ≤ 1000) (l2 : ys.length ≤ 1000) (w0 : 0 ≤ way) (w2 : way ≤ 2) (fb : firstBad n xs ys way = some x) (o : OddV H n x)
    (q : ∀ (p : Addr) (H' : Hp), Same H H' → H' p = some (.tup [.int 1, .str (reprV x)]) → Q (.ref p) H') : sp__law_fault K [.ref a, .ref r1, .ref r2, .int way] H Q E0 :=
  ⟨a, r1, r2, xs, ys, way, B, n, h, x, rfl, hh, h1, h2, p1, p2, l1, l2, w0, w2, fb, o, q⟩
/-- (1, repr(x)) -/
theorem r_one {i : Nat} (e : σ[i]? = some (some x)) (o : OddV H n x) (q : ∀ p, H p = Option.none → Q (.ref p) (upd H p (.tup [.int 1, .str (reprV x)]))) : tTup (tCons (tC (.int 1)) (tCons (tCB (rRepr K) (tCons (tVar i) tNil)) tNil)) σ H Q :=
  ⟨_, e, x, n, rfl, o, n_line (by show 2 ≤ _; decide), q⟩
end

theorem p__law_faults {K : PySem.W.Frag} : ∀ vs H Q E, sp__law_faults K vs H Q E → vs.length = 4 ∧ t__law_faults K { nx := fun _ H' => Q .non H', rt := Q } (start N__law_faults vs) H := by
  rintro vs H Q E ⟨b, a, r, l, B, n, h, rfl, hb, hh, hr, hl, hl2, q⟩
  refine ⟨rfl, ?_⟩
  have n16 := hh.n16
  refine ⟨_, rfl, _, rfl, b, n, rfl, hb, n16.1, n16.2, fun x H1 x1 ox => ?_⟩
  refine ⟨_, rfl, _, rfl, b, n, rfl, x1.2, n16.1, n16.2, fun y H2 hx2 oy => ?_⟩
  have x2 := x1.trans hx2
  refine ⟨_, rfl, ?_⟩
  refine r_lenN (i := 3) rfl (x2.at hr) ?_
  refine kc (adN (y := 1) ?_)
  refine ⟨b, _, rfl, x2.2, by omega, by omega, fun k H3 hk hx3 => ?_⟩
  have x3 := x2.trans hx3
  have ox3 := (ox.mono hx2.1).mono hx3.1
  have oy3 := oy.mono hx3.1
  refine r_to (i := 3) (j := 6) rfl rfl (x3.at hr) fun c1 hc1 => ?_
  have s1 := sm_new (o := .lst (vNs (l.take k))) hc1
  refine ⟨_, rfl, n_line (by show 1 ≤ _; decide), fun c2 hc2 => ?_⟩
  have s2 := sm_new (o := .lst [x]) hc2
  refine ⟨c1, c2, _, _, rfl, rfl, s2 _ _ upd_same, upd_same, n_line (by rw [vNs_len, List.length_take]; simp; omega), fun c3 hc3 => ?_⟩
  have s3 := sm_new (o := .lst (vNs (l.take k) ++ [x])) hc3
  have s13 := s1.trans (s2.trans s3)
  refine r_from (i := 3) (j := 6) rfl rfl (s13 _ _ (x3.at hr)) fun c4 hc4 => ?_
  have s4 := sm_new (o := .lst (vNs (l.drop k))) hc4
  refine ⟨c3, c4, _, _, rfl, rfl, s4 _ _ upd_same, upd_same, n_line (by rw [List.length_append, vNs_len, vNs_len, List.length_take, List.length_drop]; simp; omega), fun c5 hc5 => ?_⟩
  have s5 := sm_new (o := .lst (vNs (l.take k) ++ [x] ++ vNs (l.drop k))) hc5
  refine ⟨_, rfl, n_line (by show 1 ≤ _; decide), fun c6 hc6 => ?_⟩
  have s6 := sm_new (o := .lst [y]) hc6
  refine ⟨c5, c6, _, _, rfl, rfl, s6 _ _ upd_same, upd_same, n_line (by rw [List.length_append, List.length_append, vNs_len, vNs_len, List.length_take, List.length_drop]; simp; omega), fun Z hZ => ?_⟩
  have s7 := sm_new (o := .lst (vNs (l.take k) ++ [x] ++ vNs (l.drop k) ++ [y])) hZ
  have s36 := s13.trans (s4.trans (s5.trans s6))
  have s37 := s36.trans s7
  have nZb : Z ≠ b := (x3.grow s36).2.ne hZ
  have z7 := rm_of (b := b) (upd_same (H := (upd (upd (upd (upd (upd (upd H3 c1 (.lst (vNs (l.take k)))) c2 (.lst [x])) c3 (.lst (vNs (l.take k) ++ [x]))) c4 (.lst (vNs (l.drop k)))) c5 (.lst (vNs (l.take k) ++ [x] ++ vNs (l.drop k)))) c6 (.lst [y]))) (a := Z) (o := .lst (vNs (l.take k) ++ [x] ++ vNs (l.drop k) ++ [y]))) nZb
  have x7 := x3.grow s37
  have ox7 := ox3.mono (rm_same s37)
  have oy7 := oy3.mono (rm_same s37)
  generalize hH7 : (upd (upd (upd (upd (upd (upd (upd H3 c1 (.lst (vNs (l.take k)))) c2 (.lst [x])) c3 (.lst (vNs (l.take k) ++ [x]))) c4 (.lst (vNs (l.drop k)))) c5 (.lst (vNs (l.take k) ++ [x] ++ vNs (l.drop k)))) c6 (.lst [y])) Z (.lst (vNs (l.take k) ++ [x] ++ vNs (l.drop k) ++ [y]))) = H7 at *
  clear hH7
  -- the list of faults
  have eb : badV n (vNs (l.take k) ++ [x] ++ vNs (l.drop k) ++ [y]) = some x := by
    rw [List.append_assoc, List.append_assoc, bad_app fun z hz => hl z (List.mem_of_mem_take hz)]
    exact bad_head ox.no
  have el : badV n (vNs l) = none := bad_none hl
  have pb : ∀ {H' : Hp}, OddV H' n x → OddV H' n y → ∀ z ∈ vNs (l.take k) ++ [x] ++ vNs (l.drop k) ++ [y], PlV H' z := by
    intro H' o1 o2 z hz
    rcases List.mem_append.mp hz with hz | hz
    · rcases List.mem_append.mp hz with hz | hz
      · rcases List.mem_append.mp hz with hz | hz
        · exact pl_vNs z hz
        · rw [List.mem_singleton.mp hz]
          exact o1.pl
      · exact pl_vNs z hz
    · rw [List.mem_singleton.mp hz]
      exact o2.pl
  have lb : (vNs (l.take k) ++ [x] ++ vNs (l.drop k) ++ [y]).length ≤ 1000 := by
    rw [List.length_append, List.length_append, List.length_append, vNs_len, vNs_len, List.length_take, List.length_drop]
    simp
    omega
  generalize (vNs (l.take k) ++ [x] ++ vNs (l.drop k) ++ [y]) = bs at *
  have hs := odd_str ox
  have rmH : ∀ {H' : Hp} {z : V}, OddV (rm b H') n z → OddV H' n z := fun o => o.mono (rm_le _ _)
  refine ⟨_, rfl, by decide, by decide, for_range (lo := 0) (n := 3) (fun i σ H' => ∃ o8, Bx b H H' ∧ Same (rm b H7) (rm b H') ∧ σ = [some (.ref b), some (.ref a), some (vN n), some (.ref r), some x, some y, some (vN k), some (.ref Z), o8]) ⟨_, x7, Same.refl _, rfl⟩ ?_ ?_⟩
  · rintro i σ H8 hi ⟨o8, x8, y8, rfl⟩
    show tIfS _ _ _ _ ([some (.ref b), some (.ref a), some (vN n), some (.ref r), some x, some y, some (vN k), some (.ref Z), some (.int (0 + (i : Int)))] : L2.St) H8
    rw [Int.zero_add]
    refine ⟨_, rfl, ?_⟩
    refine r_listL (i := 7) rfl (rm_le _ _ _ _ (y8 _ _ z7)) fun u1 hu1 => ?_
    have t1 := sm_new (o := .lst bs) hu1
    refine r_listL (i := 3) rfl (t1 _ _ (x8.at hr)) fun u2 hu2 => ?_
    have t2 := sm_new (o := .lst (vNs l)) hu2
    have t12 := t1.trans t2
    have x9 := x8.grow t12
    have y9 := y8.trans (rm_same t12)
    have ox9 := rmH (ox7.mono y9)
    have fb : firstBad n bs (vNs l) ((i : Nat) : Int) = some x := by
      unfold firstBad
      rw [eb]
      split <;> rfl
    refine ⟨_, rfl, ⟨a, u1, u2, _, _, _, B, n, h, x, rfl, ((hh.mono x9.1).mono (rm_le _ _)), (t2 _ _ upd_same), upd_same, (pb ox9 (rmH (oy7.mono y9))), pl_vNs, lb, (by rw [vNs_len]; omega), (by omega), (by omega), fb, ox9, fun p Hp sp hp => ?_⟩⟩
    have xp := x9.grow sp
    have yp := y9.trans (rm_same sp)
    refine r_one (i := 4) rfl (rmH (ox7.mono yp)) fun w hw => ?_
    have tw := sm_new (o := .tup [.int 1, .str (reprV x)]) hw
    refine neF hs (tw _ _ hp) upd_same ⟨_, rfl, ?_⟩
    exact iteF ⟨_, xp.grow tw, yp.trans (rm_same tw), rfl⟩
  · rintro σ H8 ⟨o8, x8, y8, rfl⟩
    refine ⟨_, rfl, ?_⟩
    refine r_listL (i := 7) rfl (rm_le _ _ _ _ (y8 _ _ z7)) fun u1 hu1 => ?_
    have t1 := sm_new (o := .lst bs) hu1
    refine ⟨_, rfl, n_line (by show 1 ≤ _; decide), fun u2 hu2 => ?_⟩
    have t2 := sm_new (o := .lst [y]) hu2
    have t12 := t1.trans t2
    have x9 := x8.grow t12
    have y9 := y8.trans (rm_same t12)
    have ox9 := rmH (ox7.mono y9)
    have oy9 := rmH (oy7.mono y9)
    have fb : firstBad n bs [y] 0 = some x := by
      unfold firstBad
      rw [eb]
      rfl
    refine ⟨a, u1, u2, _, _, _, B, n, h, x, rfl, ((hh.mono x9.1).mono (rm_le _ _)), (t2 _ _ upd_same), upd_same, (pb ox9 oy9), (fun z hz => by rw [List.mem_singleton.mp hz]; exact oy9.pl), lb, (by simp), (by decide), (by decide), fb, ox9, fun p Hp sp hp => ?_⟩
    have xp := x9.grow sp
    have yp := y9.trans (rm_same sp)
    refine r_one (i := 4) rfl (rmH (ox7.mono yp)) fun w hw => ?_
    have tw := sm_new (o := .tup [.int 1, .str (reprV x)]) hw
    refine neF hs (tw _ _ hp) upd_same ⟨_, rfl, ?_⟩
    refine iteF ?_
    have xw := xp.grow tw
    have yw := yp.trans (rm_same tw)
    refine ⟨_, rfl, ?_⟩
    refine r_listL (i := 3) rfl (xw.at hr) fun v1 hv1 => ?_
    have t3 := sm_new (o := .lst (vNs l)) hv1
    refine r_listL (i := 7) rfl (t3 _ _ (rm_le _ _ _ _ (yw _ _ z7))) fun v2 hv2 => ?_
    have t4 := sm_new (o := .lst bs) hv2
    have t34 := t3.trans t4
    have xv := xw.grow t34
    have yv := yw.trans (rm_same t34)
    have oxv := rmH (ox7.mono yv)
    have fb2 : firstBad n (vNs l) bs 0 = some x := by
      unfold firstBad
      rw [eb, el]
      rfl
    refine ⟨a, v1, v2, _, _, _, B, n, h, x, rfl, ((hh.mono xv.1).mono (rm_le _ _)), (t4 _ _ upd_same), upd_same, pl_vNs, (pb oxv (rmH (oy7.mono yv))), (by rw [vNs_len]; omega), lb, (by decide), (by decide), fb2, oxv, fun p2 Hp2 sp2 hp2 => ?_⟩
    have xp2 := xv.grow sp2
    have yp2 := yv.trans (rm_same sp2)
    refine r_one (i := 4) rfl (rmH (ox7.mono yp2)) fun w2 hw2 => ?_
    have tw2 := sm_new (o := .tup [.int 1, .str (reprV x)]) hw2
    exact eqF hs (tw2 _ _ hp2) upd_same (q _ (xp2.grow tw2))

theorem p_law {K : PySem.W.Frag} : ∀ vs H Q E, sp_law K vs H Q E → vs.length = 1 ∧ t_law K { nx := fun _ H' => Q .non H', rt := Q } (start N_law vs) H := by
  rintro vs H Q E ⟨a, ns, rfl, sq, hn, q⟩
  refine ⟨rfl, ?_⟩
  refine ⟨_, rfl, a, ns, rfl, sq, hn, fun b H1 nb s1 hb => ?_⟩
  refine ⟨_, rfl, b, rfl, hb, fun p n h line ws s H2 x2 pl => ?_⟩
  refine ⟨_, rfl, _, rfl, b, p, n, h, line, ws, s, rfl, x2.2, pl, fun w1 B1 H3 hx3 ww1 => ?_⟩
  refine ⟨_, rfl, _, rfl, _, rfl, b, p, n, h, line, ws, s, rfl, hx3.2, pl.mono hx3.1, fun p2 n2 h2 line2 ws2 s2 H4 hx4 pl2 => ?_⟩
  refine ⟨b, p2, n2, h2, line2, ws2, s2, rfl, hx4.2, pl2, fun w2 B2 H5 hx5 ww2 => ?_⟩
  have ww1' := (ww1.mono hx4.1).mono hx5.1
  refine ⟨_, rfl, _, rfl, n_line (by show 2 ≤ _; decide), fun T hT => ?_⟩
  have xT : Bx b H5 (upd H5 T (.tup [.ref w1, .ref w2])) := (Bx.refl hx5.2).new hT
  have hT1 : rm b (upd H5 T (.tup [.ref w1, .ref w2])) T = some (.tup [.ref w1, .ref w2]) := rm_new (hx5.2.ne hT)
  refine ⟨T, rfl, ⟨_, SqT.of upd_same⟩, for_tup (xs := [V.ref w1, V.ref w2]) (fun i σ H' => ∃ o5 o6, Bx b H5 H' ∧ rm b H' T = some (.tup [.ref w1, .ref w2]) ∧ σ = [some (.ref a), some (.ref b), some (.ref p), some (.ref w1), some (.ref w2), o5, o6]) ⟨_, _, xT, hT1, rfl⟩ (fun i σ H' _ e => ?_) ?_ ?_⟩
  · obtain ⟨_, _, _, e, _⟩ := e
    exact SqT.of (rm_le _ _ _ _ e)
  · rintro i x σ H6 hx ⟨o5, o6, x6, t6, rfl⟩
    obtain ⟨w, B, n, h, s, rfl, hw⟩ : ∃ w B n h s, x = V.ref w ∧ WorldAt K (rm b H5) w B n h s := by
      rcases List.mem_cons.mp (mem_at hx) with e | e
      · exact ⟨w1, B1, _, _, _, e, ww1'⟩
      · exact ⟨w2, B2, _, _, _, List.mem_singleton.mp e, ww2⟩
    refine ⟨_, rfl, _, rfl, _, rfl, _, rfl, b, w, B, n, h, s, 5, rfl, x6.2, hw.mono x6.1, by decide, fun z l H7 hl2 hl hx7 hz => ?_⟩
    have x7 := x6.trans hx7
    refine ⟨b, w, z, l, B, n, h, s, rfl, x7.2, hw.mono x7.1, hz, hl, hl2, fun H8 hx8 => ?_⟩
    have x8 := x7.trans hx8
    refine ⟨_, rfl, iteF ?_⟩
    refine ⟨_, rfl, _, rfl, _, rfl, b, 8, rfl, x8.2, by decide, by decide, fun d H9 hd hx9 => ?_⟩
    have x9 := x8.trans hx9
    refine kc (eqN (y := 0) ⟨_, rfl, ?_⟩)
    have rest : ∀ most : Nat, most ≤ 40 → sp__law_lamps K [.ref b, .ref w, vN most] H9 (fun x H1 => gName 6 x [some (.ref a), some (.ref b), some (.ref p), some (.ref w1), some (.ref w2), some (.ref w), o6] H1 (tIfS (tOr (tNot (tB (tCl (sp__law_long K) E0 (tCons (tVar 1) (tCons (tVar 5) (tCons (tVar 6) tNil)))))) (tNot (tB (tCl (sp__law_faults K) E0 (tCons (tVar 1) (tCons (tOp (rIxT K) (tVar 5) (tC (.int 0))) (tCons (tCB (rLen K) (tCons (tOp (rIxT K) (tVar 5) (tC (.int 3))) tNil)) (tCons (tVar 6) tNil)))))))) (tRet (tC (.bl false))) tNext
        { nx := fun σ H' => ∃ o5 o6, Bx b H5 H' ∧ rm b H' T = some (.tup [.ref w1, .ref w2]) ∧ σ = [some (.ref a), some (.ref b), some (.ref p), some (.ref w1), some (.ref w2), o5, o6], rt := Q })) E0 := by
      intro most hm
      refine ⟨b, w, B, n, h, s, most, rfl, x9.2, hw.mono x9.1, hm, fun z l Hz hl2 hl hxz hz => ?_⟩
      have xz := x9.trans hxz
      refine ⟨_, rfl, _, rfl, _, rfl, b, w, z, l, B, n, h, s, rfl, xz.2, hw.mono xz.1, hz, hl, by omega, fun Hl hxl => ?_⟩
      have xl := xz.trans hxl
      refine ⟨_, rfl, iteF ?_⟩
      have hwl := hw.mono xl.1
      obtain ⟨⟨ha, bl, sa, q1, q2, q3, q4⟩, ir⟩ := hwl
      have q0 := rm_le _ _ _ _ q1
      refine ⟨_, rfl, _, rfl, kc (ixT (i := 0) q0 rfl ?_)⟩
      refine ⟨_, rfl, kc (ixT (i := 3) q0 rfl ?_)⟩
      refine ⟨_, _, rfl, .inr (SqT.of (rm_le _ _ _ _ q4.at_)), ?_⟩
      rw [stV_len]
      refine ⟨_, rfl, b, ha, z, l, B, n, h, rfl, xl.2, q2, hxl.1 _ _ hz, hl, by omega, fun Hf hxf => ?_⟩
      refine ⟨_, rfl, iteF ?_⟩
      have xf := xl.trans hxf
      exact ⟨_, _, xf, (hx7.trans (hx8.trans (hx9.trans (hxz.trans (hxl.trans hxf))))).1 _ _ t6, rfl⟩
    cases e : decide (d = 0) with
    | true => exact iteT (rest 40 (by decide))
    | false => exact iteF (rest 12 (by decide))
  · rintro σ H6 ⟨o5, o6, x6, t6, rfl⟩
    exact q H6
end Hue
end
section
set_option maxHeartbeats 4000000
namespace Hue
open PySem PySem.Spec PyProof.Rows L2
section
variable {K : PySem.W.Frag} {σ : L2.St} {H : Hp} {p : Addr} {i j k v x m : Nat} {ms : List Nat}
/-- (ms[v] >> x) & 1 == 1 -/
theorem r_bit {Q : Bool → Hp → Prop} (e1 : σ[i]? = some (some (.ref p))) (e2 : σ[k]? = some (some (vN v))) (e3 : σ[j]? = some (some (vN x))) (h : H p = some (.lst (vNs ms))) (hm : ms[v]? = some m) (q : Q (m.testBit x) H) :
    tTest (tOp rEq (tOp oAnd (tOp oShr (tOp (rIxL K) (tVar i) (tVar k)) (tVar j)) (tC (.int 1))) (tC (.int 1))) σ H Q := by
  refine ⟨_, e1, _, e2, ixl h hm ?_⟩
  refine ⟨_, e3, _, _, rfl, rfl, (by omega), _, _, rfl, rfl, rfl, _, rfl, ?_⟩
  rw [bit_is]
  exact q
/-- ms[v] | 1 << x -/
theorem r_or1 {Q : VK} (e1 : σ[i]? = some (some (.ref p))) (e2 : σ[k]? = some (some (vN v))) (e3 : σ[j]? = some (some (vN x))) (h : H p = some (.lst (vNs ms))) (hm : ms[v]? = some m) (hx : x ≤ 1000) (q : Q (vN (m ||| 2 ^ x)) H) :
    tOp oOr (tOp (rIxL K) (tVar i) (tVar k)) (tOp oShl (tC (.int 1)) (tVar j)) σ H Q := by
  refine ⟨_, e1, _, e2, ixl h hm ?_⟩
  refine ⟨_, e3, _, _, rfl, rfl, ⟨by omega, by omega, by decide⟩, _, _, rfl, rfl, ?_⟩
  show Q (V.int (Builtin.bitOr (m : Int) ((1 : Int) * 2 ^ ((x : Int)).toNat))) H
  rw [shl_nn, or_nn]
  exact q
end
theorem orN {H : Hp} {x y : Nat} {Q : VK} (q : Q (vN (x ||| y)) H) : oOr (vN x) (vN y) H Q := ⟨_, _, rfl, rfl, by
  show Q (.int (Builtin.bitOr (x : Int) (y : Int))) H
  rw [or_nn]
  exact q⟩
theorem flat_rep (n : Nat) : (List.replicate ((n : Nat) : Int).toNat [V.int 0]).flatten = vNs (tab n fun _ => 0) := by
  rw [Int.toNat_natCast]
  induction n with
  | zero => rfl
  | succ n ih =>
    rw [List.replicate_succ', List.flatten_append, ih]
    unfold tab vNs
    simp [List.range_succ]
/-- [0] * n -/
theorem r_zeros {σ : L2.St} {H : Hp} {i n : Nat} {Q : VK} (e : σ[i]? = some (some (vN n))) (hn : n ≤ 16) (q : ∀ p H', H p = Option.none → Same H H' → H' p = some (.lst (vNs (tab n fun _ => 0))) → Q (.ref p) H') : tOp rRep (tLst (tCons (tC (.int 0)) tNil)) (tVar i) σ H Q := by
  refine ⟨n_line (by show 1 ≤ _; decide), fun z hz => ?_⟩
  have sz := sm_new (o := .lst [.int 0]) hz
  refine ⟨_, e, z, _, _, rfl, rfl, upd_same, by omega, by omega, n_line (by simp; omega), fun p hp => ?_⟩
  rw [flat_rep]
  exact q p _ (sz.free hp) (sz.trans (sm_new hp)) upd_same
theorem bit_or1 (m x y : Nat) : (m ||| 2 ^ x).testBit y = (m.testBit y || decide (y = x)) := by
  rw [Nat.testBit_or, Nat.testBit_two_pow]
  congr 1
  rw [Bool.eq_iff_iff, decide_eq_true_eq, decide_eq_true_eq]
  exact eq_comm

theorem p__is_wire {K : PySem.W.Frag} : ∀ vs H Q E, sp__is_wire K vs H Q E → vs.length = 2 ∧ t__is_wire K { nx := fun _ H' => Q .non H', rt := Q } (start N__is_wire vs) H := by
  rintro vs H Q E ⟨n, a, u, w, rfl, ha, hu, hw, hne, q⟩
  refine ⟨rfl, ?_⟩
  refine r_isiT (i := 1) rfl ha ?_
  refine ⟨true, rfl, iteF ?_⟩
  refine r_lenT (i := 1) rfl ha ?_
  refine kc (neN (y := 2) ⟨_, rfl, ?_⟩)
  refine iteF ?_
  refine ⟨_, rfl, a, _, rfl, SqT.of ha, rfl, _, _, rfl, _, _, rfl, rfl, ?_⟩
  refine ⟨_, rfl, _, rfl, .int _, true, rfl, iteF ?_⟩
  refine ⟨_, rfl, _, rfl, .int _, true, rfl, iteF ?_⟩
  refine ⟨_, rfl, leI (b := true) (decide_eq_true (by omega)) ⟨_, rfl, ?_⟩⟩
  refine iteT ⟨_, rfl, ltN ?_⟩
  rw [decide_eq_true hu]
  refine ⟨_, rfl, iteT ?_⟩
  refine ⟨_, rfl, leI (b := true) (decide_eq_true (by omega)) ⟨_, rfl, ?_⟩⟩
  refine iteT ⟨_, rfl, ltN ?_⟩
  rw [decide_eq_true hw]
  refine ⟨_, rfl, iteT ?_⟩
  refine ⟨_, rfl, _, rfl, neN ?_⟩
  rw [decide_eq_false hne]
  exact q

theorem Path.mono {ws us : List (Nat × Nat)} {x y : Nat} (h : ∀ p ∈ ws, p ∈ us) (p : Path ws x y) : Path us x y := by
  induction p with
  | one e => exact .one (h _ e)
  | cons e _ ih => exact .cons (h _ e) ih
theorem Path.trans {ws : List (Nat × Nat)} {x y z : Nat} (p : Path ws x y) (q : Path ws y z) : Path ws x z := by
  induction p with
  | one e => exact .cons e q
  | cons e _ ih => exact .cons e (ih q)
theorem path_snoc {ws : List (Nat × Nat)} {u l x y : Nat} : Path (ws ++ [(u, l)]) x y ↔ Path ws x y ∨ ((x = u ∨ Path ws x u) ∧ (y = l ∨ Path ws l y)) := by
  constructor
  · intro p
    induction p with
    | @one a b e =>
      rcases List.mem_append.mp e with e | e
      · exact .inl (.one e)
      · have e2 : (a, b) = (u, l) := by simpa using e
        cases e2
        exact .inr ⟨.inl rfl, .inl rfl⟩
    | @cons a b c e0 _ ih =>
      rcases List.mem_append.mp e0 with e | e
      · rcases ih with ih | ⟨ih1, ih2⟩
        · exact .inl (.cons e ih)
        · refine .inr ⟨.inr ?_, ih2⟩
          rcases ih1 with ih1 | ih1
          · rw [← ih1]
            exact .one e
          · exact .cons e ih1
      · have e2 : (a, b) = (u, l) := by simpa using e
        cases e2
        rcases ih with ih | ⟨_, ih2⟩
        · exact .inr ⟨.inl rfl, .inr ih⟩
        · exact .inr ⟨.inl rfl, ih2⟩
  · have mono : ∀ {a b}, Path ws a b → Path (ws ++ [(u, l)]) a b := fun p => p.mono fun q hq => List.mem_append_left _ hq
    have new : Path (ws ++ [(u, l)]) u l := .one (by simp)
    rintro (p | ⟨h1, h2⟩)
    · exact mono p
    · have p1 : Path (ws ++ [(u, l)]) x l := by
        rcases h1 with rfl | h1
        · exact new
        · exact (mono h1).trans new
      rcases h2 with rfl | h2
      · exact p1
      · exact p1.trans (mono h2)
theorem bel_snoc {ws : List (Nat × Nat)} {u l x y : Nat} : bel (ws ++ [(u, l)]) x y = (bel ws x y || ((decide (x = u) || bel ws x u) && (decide (y = l) || bel ws l y))) := by
  rw [Bool.eq_iff_iff, bel_iff, path_snoc, Bool.or_eq_true, Bool.and_eq_true, Bool.or_eq_true, Bool.or_eq_true, bel_iff, bel_iff, bel_iff, decide_eq_true_eq, decide_eq_true_eq]
theorem bel_nil {x y : Nat} : bel [] x y = false := by
  cases e : bel [] x y with
  | false => rfl
  | true =>
    have := bel_iff.mp e
    obtain ⟨w, h, _⟩ := path_step.mp this
    simp at h

theorem p__join_wires {K : PySem.W.Frag} : ∀ vs H Q E, sp__join_wires K vs H Q E → vs.length = 2 ∧ t__join_wires K { nx := fun _ H' => Q .non H', rt := Q } (start N__join_wires vs) H := by
  rintro vs H Q E ⟨n, h, a, as, line, ws, rfl, ⟨sq, wr, pm, ok, wl, n1, n16, h2, h10⟩, q⟩
  refine ⟨rfl, ?_⟩
  have nd : line.Nodup := pm.nodup_iff.mpr List.nodup_range
  refine r_zeros (i := 0) rfl n16 fun W H1 nW s1 w1 => ?_
  refine r_zeros (i := 0) rfl n16 fun Bl H2 nBl' s2 b2 => ?_
  have nBl : H Bl = Option.none := s1.free nBl'
  have hWB : W ≠ Bl := ne_of_none w1 nBl'
  have w2 := s2 _ _ w1
  have s12 := s1.trans s2
  have ul_lt : ∀ u l, (u, l) ∈ ws → u < n ∧ l < n ∧ u ≠ l := fun u l hm => by
    obtain ⟨iu, il, hlt, hu, hl⟩ := ok.dn u l hm
    refine ⟨line_lt pm hu, line_lt pm hl, fun e => ?_⟩
    rw [e] at hu
    have := (List.getElem?_inj (lt_at hu) nd).mp (hu.trans hl.symm)
    omega
  refine ⟨_, rfl, a, as.map V.ref, rfl, ?_⟩
  have Pv : Nat → L2.St → Hp → Prop := fun _ _ _ => True
  clear Pv
  let Pv : Nat → L2.St → Hp → Prop := fun i σ H' => ∃ (wm bm : List Nat) (o4 o5 o6 o7 o8 o9 : Option V), (Same H H' ∧ H' W = some (.lst (vNs wm)) ∧ H' Bl = some (.lst (vNs bm))) ∧ (wm.length = n ∧ ∀ v m, wm[v]? = some m → ∀ x, m.testBit x = decide ((v, x) ∈ ws.take i)) ∧ (bm.length = n ∧ ∀ v m, bm[v]? = some m → ∀ x, m.testBit x = bel (ws.take i) v x) ∧ σ = [some (vN n), some (.ref a), some (.ref W), some (.ref Bl), o4, o5, o6, o7, o8, o9]
  have zero : ∀ (v m : Nat), (tab n fun _ => (0 : Nat))[v]? = some m → ∀ x, m.testBit x = false := fun v m hm x => by
    have hv := lt_at hm
    rw [tab_len] at hv
    rw [tab_at hv] at hm
    cases hm
    exact Nat.zero_testBit x
  have h0 : Pv 0 [some (vN n), some (.ref a), some (.ref W), some (.ref Bl), none, none, none, none, none, none] H2 :=
    ⟨_, _, _, _, _, _, _, _, ⟨s12, w2, b2⟩, ⟨tab_len, fun v m hm x => by rw [zero v m hm x]; simp⟩, ⟨tab_len, fun v m hm x => by rw [zero v m hm x]; exact bel_nil.symm⟩, rfl⟩
  have sm_of : ∀ i σ H', Pv i σ H' → Same H H' := fun i σ H' p => by
    obtain ⟨_, _, _, _, _, _, _, _, p, _⟩ := p
    exact p.1
  refine Or.elim sq (fun sq => .inl ⟨s12.seq sq, for_it walk_enum Pv h0 (fun i σ H' _ p => (sm_of _ _ _ p).seq sq) ?ga ?gb⟩) (fun sq => .inr ⟨sqT_mono s12 sq, for_it walk_enumT Pv h0 (fun i σ H' _ p => sqT_mono (sm_of _ _ _ p) sq) ?gc ?gd⟩)
  case gd =>
    rintro σ H3 ⟨wm, bm, o4, o5, o6, o7, o8, o9, ⟨s3, w3, b3⟩, _, ⟨bl, bb⟩, rfl⟩
    rw [List.length_map, wr.1, List.take_length] at bb
    refine ⟨_, rfl, q Bl H3 nBl s3 ⟨bm, b3, bl, fun v m hm x => ?_⟩⟩
    rw [bb v m hm x]
    cases e : bel ws v x with
    | false => rw [Bool.and_false]
    | true => rw [decide_eq_true (bel_bd ok pm v x e).2, Bool.and_true]
  case gb =>
    rintro σ H3 ⟨wm, bm, o4, o5, o6, o7, o8, o9, ⟨s3, w3, b3⟩, _, ⟨bl, bb⟩, rfl⟩
    rw [List.length_map, wr.1, List.take_length] at bb
    refine ⟨_, rfl, q Bl H3 nBl s3 ⟨bm, b3, bl, fun v m hm x => ?_⟩⟩
    rw [bb v m hm x]
    cases e : bel ws v x with
    | false => rw [Bool.and_false]
    | true => rw [decide_eq_true (bel_bd ok pm v x e).2, Bool.and_true]
  all_goals
    rintro i x σ H3 H4 hi ⟨wm, bm, o4, o5, o6, o7, o8, o9, ⟨s3, w3, b3⟩, ⟨wml, wb⟩, ⟨bml, bb⟩, rfl⟩ ⟨T, y, z, rfl, hT, rfl, hy, hz⟩
    cases Option.some.inj hy
    replace hz : (as.map V.ref)[i]? = some z := hz
    have hil : i < ws.length := by
      have := lt_at hz
      rwa [List.length_map, wr.1] at this
    obtain ⟨⟨u, l⟩, hul⟩ := at_ex hil
    obtain ⟨wp, e1, e2⟩ := wr.get hul
    rw [List.getElem?_map, e1] at hz
    cases Option.some.inj hz
    obtain ⟨un, ln, hne⟩ := ul_lt u l (mem_at hul)
    have sT : Same H3 (upd H3 T (.tup [.int (i : Nat), .ref wp])) := sm_new hT
    have s4 := s3.trans sT
    have w4 := sT _ _ w3
    have b4 := sT _ _ b3
    refine ⟨T, _, rfl, SqT.of upd_same, rfl, _, _, rfl, _, _, rfl, rfl, ?_⟩
    refine ⟨_, rfl, _, rfl, n, wp, u, l, rfl, s4 _ _ e2, un, ln, hne, ⟨_, rfl, iteF ?_⟩⟩
    refine ⟨_, rfl, wp, _, rfl, SqT.of (s4 _ _ e2), rfl, _, _, rfl, _, _, rfl, rfl, ?_⟩
    obtain ⟨m1, hm1⟩ := at_ex (l := wm) (i := u) (by omega)
    obtain ⟨m2, hm2⟩ := at_ex (l := bm) (i := l) (by omega)
    have nmem : (u, l) ∉ ws.take i := fun hm => by
      obtain ⟨k, hk⟩ := List.mem_iff_getElem?.mp hm
      rw [List.getElem?_take] at hk
      by_cases hki : k < i
      · rw [if_pos hki] at hk
        have := (List.getElem?_inj (lt_at hk) ok.nd).mp (hk.trans hul.symm)
        omega
      · rw [if_neg hki] at hk
        cases hk
    have nbel : bel (ws.take i) l u = false := by
      cases e : bel (ws.take i) l u with
      | false => rfl
      | true =>
        obtain ⟨i1, j1, hlt, hl, hu⟩ := path_idx (ok.sub (List.take_sublist i ws)) nd (bel_iff.mp e)
        obtain ⟨i2, j2, hlt2, hu2, hl2⟩ := ok.dn u l (mem_at hul)
        have q1 := (List.getElem?_inj (lt_at hl) nd).mp (hl.trans hl2.symm)
        have q2 := (List.getElem?_inj (lt_at hu) nd).mp (hu.trans hu2.symm)
        omega
    refine r_bit (i := 2) (k := 6) (j := 7) rfl rfl rfl w4 hm1 ?_
    rw [wb u m1 hm1, decide_eq_false nmem]
    refine iteF ?_
    refine r_bit (i := 3) (k := 7) (j := 6) rfl rfl rfl b4 hm2 ?_
    rw [bb l m2 hm2, nbel]
    refine iteF ?_
    refine r_or1 (i := 2) (k := 6) (j := 7) rfl rfl rfl w4 hm1 (by omega) ?_
    refine ⟨_, rfl, _, rfl, stl w4 (by rw [vNs_len]; omega) ?_⟩
    rw [vNs_set]
    have s5 : Same H (upd (upd H3 T (.tup [.int (i : Nat), .ref wp])) W (.lst (vNs (wm.set u (m1 ||| 2 ^ l))))) := sm_mut s4 nW
    have b5 : (upd (upd H3 T (.tup [.int (i : Nat), .ref wp])) W (.lst (vNs (wm.set u (m1 ||| 2 ^ l))))) Bl = some (.lst (vNs bm)) := by
      rw [upd_ne (Ne.symm hWB)]
      exact b4
    have w5 : (upd (upd H3 T (.tup [.int (i : Nat), .ref wp])) W (.lst (vNs (wm.set u (m1 ||| 2 ^ l))))) W = some (.lst (vNs (wm.set u (m1 ||| 2 ^ l)))) := upd_same
    generalize (upd (upd H3 T (.tup [.int (i : Nat), .ref wp])) W (.lst (vNs (wm.set u (m1 ||| 2 ^ l))))) = H5 at s5 b5 w5 ⊢
    refine r_or1 (i := 3) (k := 7) (j := 7) rfl rfl rfl b5 hm2 (by omega) ?_
    have gb : ∀ x, (m2 ||| 2 ^ l).testBit x = (decide (x = l) || bel (ws.take i) l x) := fun x => by
      rw [bit_or1, bb l m2 hm2, Bool.or_comm]
    refine ⟨_, rfl, _, rfl, by omega, by omega, for_range (lo := 0) (n := n) (fun j σ H' => ∃ (bj : List Nat) (o9 : Option V), (Same H H' ∧ H' W = some (.lst (vNs (wm.set u (m1 ||| 2 ^ l)))) ∧ H' Bl = some (.lst (vNs bj))) ∧ (bj.length = n ∧ ∀ v m, bj[v]? = some m → ∀ x, m.testBit x = if v < j then bel (ws.take (i + 1)) v x else bel (ws.take i) v x) ∧ σ = [some (vN n), some (.ref a), some (.ref W), some (.ref Bl), some (.int (i : Nat)), some (.ref wp), some (vN u), some (vN l), some (vN (m2 ||| 2 ^ l)), o9])
      ⟨bm, _, ⟨s5, w5, b5⟩, ⟨bml, fun v m hm x => by rw [if_neg (Nat.not_lt_zero v)]; exact bb v m hm x⟩, rfl⟩ ?_ ?_⟩
    · rintro j σ H6 hj ⟨bj, p9, ⟨s6, w6, b6⟩, ⟨bjl, bjb⟩, rfl⟩
      show tIfS _ _ _ _ ([some (vN n), some (.ref a), some (.ref W), some (.ref Bl), some (.int (i : Nat)), some (.ref wp), some (vN u), some (vN l), some (vN (m2 ||| 2 ^ l)), some (.int (0 + (j : Int)))] : L2.St) H6
      rw [Int.zero_add]
      obtain ⟨m, hm⟩ := at_ex (l := bj) (i := j) (by omega)
      have hmb : ∀ x, m.testBit x = bel (ws.take i) j x := fun x => by
        rw [bjb j m hm x, if_neg (Nat.lt_irrefl j)]
      have hsn : ∀ x, bel (ws.take (i + 1)) j x = (bel (ws.take i) j x || ((decide (j = u) || bel (ws.take i) j u) && (decide (x = l) || bel (ws.take i) l x))) := fun x => by
        rw [take_at hul, bel_snoc]
      -- a change at j, or none
      have yes : (decide (j = u) || bel (ws.take i) j u) = true → tAsg (tOp oOr (tOp (rIxL K) (tVar 3) (tVar 9)) (tVar 8)) (gSub (tVar 3) (tVar 9) rSetL) { nx := fun σ H' => ∃ (bj : List Nat) (o9 : Option V), (Same H H' ∧ H' W = some (.lst (vNs (wm.set u (m1 ||| 2 ^ l)))) ∧ H' Bl = some (.lst (vNs bj))) ∧ (bj.length = n ∧ ∀ v m, bj[v]? = some m → ∀ x, m.testBit x = if v < j + 1 then bel (ws.take (i + 1)) v x else bel (ws.take i) v x) ∧ σ = [some (vN n), some (.ref a), some (.ref W), some (.ref Bl), some (.int (i : Nat)), some (.ref wp), some (vN u), some (vN l), some (vN (m2 ||| 2 ^ l)), o9], rt := Q } [some (vN n), some (.ref a), some (.ref W), some (.ref Bl), some (.int (i : Nat)), some (.ref wp), some (vN u), some (vN l), some (vN (m2 ||| 2 ^ l)), some (vN j)] H6 := by
        intro hy
        refine ⟨_, rfl, _, rfl, ixl b6 hm ?_⟩
        refine ⟨_, rfl, orN ?_⟩
        refine ⟨_, rfl, _, rfl, stl b6 (by rw [vNs_len]; omega) ?_⟩
        rw [vNs_set]
        refine ⟨bj.set j (m ||| (m2 ||| 2 ^ l)), _, ⟨sm_mut s6 nBl, by rw [upd_ne hWB]; exact w6, upd_same⟩, ⟨by rw [List.length_set]; exact bjl, fun v k hk x => ?_⟩, rfl⟩
        rw [List.getElem?_set] at hk
        by_cases e : j = v
        · subst e
          rw [if_pos rfl, if_pos (by omega)] at hk
          cases hk
          rw [if_pos (Nat.lt_succ_self j), Nat.testBit_or, hmb, gb, hsn, hy, Bool.true_and]
        · rw [if_neg e] at hk
          rw [bjb v k hk x]
          by_cases h1 : v < j
          · rw [if_pos h1, if_pos (by omega)]
          · rw [if_neg h1, if_neg (by omega)]
      refine ⟨_, rfl, _, rfl, eqN ⟨_, rfl, ?_⟩⟩
      cases e : decide (j = u) with
      | true => exact iteT (iteT (yes (by rw [e]; rfl)))
      | false =>
        refine iteF ?_
        refine r_bit (i := 3) (k := 9) (j := 6) rfl rfl rfl b6 hm ?_
        rw [hmb]
        cases e2 : bel (ws.take i) j u with
        | true => exact iteT (yes (by rw [e, e2]; rfl))
        | false =>
          refine iteF ⟨bj, _, ⟨s6, w6, b6⟩, ⟨bjl, fun v k hk x => ?_⟩, rfl⟩
          rw [bjb v k hk x]
          by_cases h1 : v < j
          · rw [if_pos h1, if_pos (by omega)]
          · rw [if_neg h1]
            by_cases h2 : v < j + 1
            · have : v = j := by omega
              subst this
              rw [if_pos h2, hsn, e, e2]
              simp
            · rw [if_neg h2]
    · rintro σ H6 ⟨bj, p9, ⟨s6, w6, b6⟩, ⟨bjl, bjb⟩, rfl⟩
      refine ⟨_, bj, _, _, _, _, _, _, ⟨s6, w6, b6⟩, ⟨by rw [List.length_set]; exact wml, fun v k hk x => ?_⟩, ⟨bjl, fun v k hk x => ?_⟩, rfl⟩
      · rw [take_at hul]
        rw [List.getElem?_set] at hk
        by_cases e : u = v
        · subst e
          rw [if_pos rfl, if_pos (by omega)] at hk
          cases hk
          rw [bit_or1, wb u m1 hm1, Bool.eq_iff_iff, Bool.or_eq_true, decide_eq_true_eq, decide_eq_true_eq, decide_eq_true_eq, List.mem_append, List.mem_singleton]
          exact or_congr_right ⟨fun h => by rw [h], fun h => (Prod.mk.inj h).2⟩
        · rw [if_neg e] at hk
          rw [wb v k hk x, Bool.eq_iff_iff, decide_eq_true_eq, decide_eq_true_eq, List.mem_append, List.mem_singleton]
          exact ⟨.inl, fun h => h.elim id fun h => absurd (Prod.mk.inj h).1.symm e⟩
      · rw [bjb v k hk x, if_pos (by have := lt_at hk; omega)]
end Hue
end
section
set_option maxHeartbeats 4000000
namespace Hue
open PySem PySem.Spec PyProof.Rows L2

theorem p__turn_round {K : PySem.W.Frag} : ∀ vs H Q E, sp__turn_round K vs H Q E → vs.length = 1 ∧ t__turn_round K { nx := fun _ H' => Q .non H', rt := Q } (start N__turn_round vs) H := by
  rintro vs H Q E ⟨a, B, n, rfl, ⟨ms, a1, a2, a3⟩, n16, bd, q⟩
  refine ⟨rfl, ?_⟩
  refine ⟨n_line (by show 1 ≤ _; decide), fun z hz => ?_⟩
  have sz := sm_new (o := .lst [.int 0]) hz
  refine r_lenN (i := 0) rfl (sz _ _ a1) ?_
  rw [a2]
  refine ⟨z, _, _, rfl, rfl, upd_same, by omega, by omega, n_line (by simp; omega), fun U hU => ?_⟩
  rw [flat_rep]
  have sU := sz.trans (sm_new (o := .lst (vNs (tab n fun _ => 0))) hU)
  have nU : H U = Option.none := sz.free hU
  have u0 : (upd (upd H z (.lst [.int 0])) U (.lst (vNs (tab n fun _ => 0)))) U = some (.lst (vNs (tab n fun _ => 0))) := upd_same
  generalize (upd (upd H z (.lst [.int 0])) U (.lst (vNs (tab n fun _ => 0)))) = H1 at sU u0 ⊢
  have zero : ∀ (v m : Nat), (tab n fun _ => (0 : Nat))[v]? = some m → ∀ x, m.testBit x = false := fun v m hm x => by
    have hv := lt_at hm
    rw [tab_len] at hv
    rw [tab_at hv] at hm
    cases hm
    exact Nat.zero_testBit x
  refine ⟨_, rfl, a, vNs ms, rfl, SqL.of (sU _ _ a1), for_it (walk_enum (xs := vNs ms)) (fun i σ H' => ∃ (um : List Nat) (o2 o3 o4 : Option V), (Same H H' ∧ H' U = some (.lst (vNs um))) ∧ (um.length = n ∧ ∀ (w m : Nat), um[w]? = some m → ∀ v, m.testBit v = (decide (v < i) && B v w)) ∧ σ = [some (.ref a), some (.ref U), o2, o3, o4]) ⟨_, _, _, _, ⟨sU, u0⟩, ⟨tab_len, fun w m hm v => by rw [zero w m hm v]; simp⟩, rfl⟩ (fun i σ H' _ p => ?_) ?_ ?_⟩
  · obtain ⟨_, _, _, _, p, _⟩ := p
    exact SqL.of (p.1 _ _ a1)
  · rintro i x σ H2 H3 hi ⟨um, o2, o3, o4, ⟨s2, u2⟩, ⟨ul, ub⟩, rfl⟩ ⟨T, y, z, rfl, hT, rfl, hy, hz⟩
    cases Option.some.inj hy
    obtain ⟨m, hm, rfl⟩ := of_vNs hz
    have hin : i < n := by rw [← a2]; exact lt_at hm
    have sT : Same H2 (upd H2 T (.tup [.int (i : Nat), vN m])) := sm_new hT
    refine ⟨T, _, rfl, SqT.of upd_same, rfl, _, _, rfl, _, _, rfl, rfl, ?_⟩
    have mb := a3 i m hm
    refine ⟨_, rfl, m, n, rfl, n16, row_small mb, fun p H4 hp s4 hpl => ?_⟩
    rw [row_of mb] at hpl
    have s24 := sT.trans s4
    have u4 := s24 _ _ u2
    have hpU : p ≠ U := fun e => by
      rw [e, sT _ _ u2] at hp
      cases hp
    refine ⟨p, rfl, ⟨_, SqL.of hpl⟩, for_list (xs := vNs (belRow B n i)) (fun j σ H' => ∃ (uj : List Nat) (o4 : Option V), (Same H H' ∧ H' U = some (.lst (vNs uj)) ∧ H' p = some (.lst (vNs (belRow B n i)))) ∧ (uj.length = n ∧ ∀ (w m : Nat), uj[w]? = some m → ∀ v, m.testBit v = ((decide (v < i) && B v w) || (decide (v = i) && decide (w ∈ (belRow B n i).take j)))) ∧ σ = [some (.ref a), some (.ref U), some (.int (i : Nat)), some (vN m), o4])
      ⟨um, _, ⟨s2.trans s24, u4, hpl⟩, ⟨ul, fun w k hk v => by rw [ub w k hk v]; simp⟩, rfl⟩ (fun j σ H' _ p => ?_) ?_ ?_⟩
    · obtain ⟨_, _, p, _⟩ := p
      exact SqL.of p.2.2
    · rintro j x σ H5 hx ⟨uj, p4, ⟨s5, u5, p5⟩, ⟨ujl, ujb⟩, rfl⟩
      obtain ⟨w, hw, rfl⟩ := of_vNs hx
      have hwn := (mem_belRow.mp (mem_at hw)).1
      obtain ⟨k, hk⟩ := at_ex (l := uj) (i := w) (by omega)
      refine r_or1 (i := 1) (k := 4) (j := 2) (x := i) rfl rfl rfl u5 hk (by omega) ?_
      refine ⟨_, rfl, _, rfl, stl u5 (by rw [vNs_len]; omega) ?_⟩
      rw [vNs_set]
      refine ⟨uj.set w (k ||| 2 ^ i), _, ⟨sm_mut s5 nU, upd_same, by rw [upd_ne hpU]; exact p5⟩, ⟨by rw [List.length_set]; exact ujl, fun w' k' hk' v => ?_⟩, rfl⟩
      rw [List.getElem?_set] at hk'
      by_cases e : w = w'
      · subst e
        rw [if_pos rfl, if_pos (by omega)] at hk'
        cases hk'
        rw [bit_or1, ujb w k hk v, take_at hw]
        by_cases e2 : v = i
        · rw [decide_eq_true e2]
          simp
        · rw [decide_eq_false e2]
          simp
      · rw [if_neg e] at hk'
        rw [ujb w' k' hk' v, take_at hw]
        simp [Ne.symm e]
    · rintro σ H5 ⟨uj, p4, ⟨s5, u5, p5⟩, ⟨ujl, ujb⟩, rfl⟩
      refine ⟨uj, _, _, _, ⟨s5, u5⟩, ⟨ujl, fun w k hk v => ?_⟩, rfl⟩
      have hwn : w < n := by rw [← ujl]; exact lt_at hk
      rw [ujb w k hk v, vNs_len, List.take_length]
      have e : decide (w ∈ belRow B n i) = B i w := by
        rw [Bool.eq_iff_iff, decide_eq_true_eq, mem_belRow]
        exact ⟨fun h => h.2, fun h => ⟨hwn, h⟩⟩
      rw [e]
      by_cases h1 : v = i
      · subst h1
        simp
      · rw [decide_eq_false h1, Bool.false_and, Bool.or_false]
        by_cases h2 : v < i
        · rw [decide_eq_true h2, decide_eq_true (by omega)]
        · rw [decide_eq_false h2, decide_eq_false (by omega)]
  · rintro σ H2 ⟨um, o2, o3, o4, ⟨s2, u2⟩, ⟨ul, ub⟩, rfl⟩
    refine ⟨_, rfl, q U H2 nU s2 ⟨um, u2, ul, fun w m hm v => ?_⟩⟩
    rw [ub w m hm v, vNs_len, a2]
    rfl

theorem and_eq {m k : Nat} (h : ∀ i, m.testBit i = true → k.testBit i = true) : m &&& k = m := by
  apply Nat.eq_of_testBit_eq
  intro i
  rw [Nat.testBit_and]
  cases e : m.testBit i with
  | false => rfl
  | true => rw [h i e]; rfl
theorem fmc {α β : Type} {f g : α → Option β} : ∀ {l : List α}, (∀ x ∈ l, f x = g x) → l.filterMap f = l.filterMap g
  | [], _ => rfl
  | a :: l, h => by
    rw [List.filterMap_cons, List.filterMap_cons, h a List.mem_cons_self, fmc fun x hx => h x (List.mem_cons_of_mem _ hx)]
theorem shlN {H : Hp} {y : Nat} {Q : VK} (hy : y ≤ 1000) (q : Q (vN (2 ^ y)) H) : oShl (.int 1) (vN y) H Q := ⟨_, _, rfl, rfl, ⟨by omega, by omega, by decide⟩, by
  show Q (.int ((1 : Int) * 2 ^ ((y : Int)).toNat)) H
  rw [shl_nn]
  exact q⟩
theorem sub_len : ∀ {r l : List Nat}, r.Nodup → (∀ x ∈ r, x ∈ l) → r.length ≤ l.length
  | [], _, _, _ => Nat.zero_le _
  | x :: r, l, nd, h => by
    obtain ⟨h1, h2⟩ := List.nodup_cons.mp nd
    have ih := sub_len (l := l.erase x) h2 fun y hy => by
      have hne : y ≠ x := fun e => h1 (e ▸ hy)
      exact (List.mem_erase_of_ne hne).mpr (h y (List.mem_cons_of_mem _ hy))
    have := erase_len (h x List.mem_cons_self)
    rw [List.length_cons]
    omega
/-- the one with the least place that is not there yet -/
theorem least_idx {line : List Nat} {l : List Nat} : (∃ x ∈ line, x ∉ l) → ∃ (k x : Nat), line[k]? = some x ∧ x ∉ l ∧ ∀ j : Nat, j < k → ∀ y, line[j]? = some y → y ∈ l := by
  induction line with
  | nil => rintro ⟨x, hx, _⟩; simp at hx
  | cons a line ih =>
    rintro ⟨x, hx, hn⟩
    by_cases ha : a ∈ l
    · have hx' : x ∈ line := by
        rcases List.mem_cons.mp hx with rfl | q
        · exact absurd ha hn
        · exact q
      obtain ⟨k, z, h1, h2, h3⟩ := ih ⟨x, hx', hn⟩
      refine ⟨k + 1, z, h1, h2, fun j hj y hy => ?_⟩
      cases j with
      | zero =>
        cases hy
        exact ha
      | succ j => exact h3 j (by omega) y hy
    · exact ⟨0, a, rfl, ha, fun j hj => by omega⟩
theorem bit_zero (m j : Nat) : decide (V.int (Builtin.bitAnd ((m : Int) / 2 ^ ((j : Int)).toNat) 1) = V.int 0) = !m.testBit j := by
  rw [bit_at]
  cases m.testBit j with
  | true => rfl
  | false => rfl

theorem p__order_list {K : PySem.W.Frag} : ∀ vs H Q E, sp__order_list K vs H Q E → vs.length = 1 ∧ t__order_list K { nx := fun _ H' => Q .non H', rt := Q } (start N__order_list vs) H := by
  rintro vs H Q E ⟨a, B, n, line, rfl, ⟨ms, a1, a2, a3⟩, n16, pm, ord, q⟩
  refine ⟨rfl, ?_⟩
  have nd : line.Nodup := pm.nodup_iff.mpr List.nodup_range
  refine ⟨Nat.zero_le _, fun Z hZ => ?_⟩
  refine while_by (fun σ H' => ∃ (l : List Nat) (m : Nat) (o3 o4 o5 o6 : Option V), (Same H H' ∧ H' Z = some (.lst (vNs l))) ∧ ((∀ x ∈ l, x < n) ∧ l.length ≤ n ∧ ∀ x, m.testBit x = decide (x ∈ l)) ∧ σ = [some (.ref a), some (.ref Z), some (vN m), o3, o4, o5, o6])
    (fun _ H' => match H' Z with | some (.lst ys) => n - ys.length | _ => 0) ⟨[], 0, _, _, _, _, ⟨sm_new hZ, upd_same⟩, ⟨fun x hx => by simp at hx, Nat.zero_le _, fun x => by simp⟩, rfl⟩ ?_ ?_
  · rintro σ H1 ⟨l, m, o3, o4, o5, o6, ⟨s1, z1⟩, ⟨ln, ll, mb⟩, rfl⟩
    refine r_lenN (i := 1) rfl z1 ?_
    refine r_lenN (i := 0) rfl (s1 _ _ a1) ?_
    rw [a2]
    refine ltN ⟨_, rfl, ?_⟩
    by_cases hlt : l.length < n
    · rw [decide_eq_true hlt]
      refine iteT ?_
      -- one that may follow
      have hex : ∃ x ∈ line, x ∉ l := by
        by_cases h : ∃ x ∈ line, x ∉ l
        · exact h
        · exfalso
          have := sub_len nd fun x hx => by
            by_cases q : x ∈ l
            · exact q
            · exact absurd ⟨x, hx, q⟩ h
          rw [pm.length_eq, List.length_range] at this
          omega
      obtain ⟨k, x0, hk, hx0, hless⟩ := least_idx hex
      have x0n := line_lt pm hk
      let P : Nat → Bool := fun i => decide (ms.getD i 0 &&& m = ms.getD i 0)
      have hP0 : P x0 = true := by
        refine decide_eq_true (and_eq fun w hw => ?_)
        rw [a3 x0 _ (getD_at (by omega)) w, Bool.and_eq_true] at hw
        obtain ⟨i, j, hij, h1, h2⟩ := ord w x0 hw.2
        have := (List.getElem?_inj (lt_at h2) nd).mp (h2.trans hk.symm)
        rw [mb, decide_eq_true_eq]
        exact hless i (by omega) w h1
      refine ⟨_, rfl, a, vNs ms, rfl, SqL.of (s1 _ _ a1), fun D hD => lc_fn (walk_enum (xs := vNs ms)) (fun i => (ms[i]?).bind fun k => if decide (k &&& m = k) = true then some (vN i) else none) (by rw [vNs_len]; omega) hD (fun _ sm => SqL.of (sm _ _ (s1 _ _ a1))) ?_ ?_⟩
      · rintro i x H2 H3 Qy Qn hi sm ⟨T, y, z, rfl, hT, rfl, hy, hz⟩ h1 h2
        cases Option.some.inj hy
        obtain ⟨k', hk', rfl⟩ := of_vNs hz
        have sT : Same H2 (upd H2 T (.tup [.int (i : Nat), vN k'])) := sm_new hT
        refine ⟨T, _, rfl, SqT.of upd_same, rfl, _, _, rfl, _, _, rfl, rfl, rfl, ?_⟩
        refine ⟨_, rfl, _, rfl, _, _, rfl, rfl, _, rfl, rfl, _, rfl, ?_⟩
        have ed : decide (V.int (Builtin.bitAnd (k' : Int) (m : Int)) = vN k') = decide (k' &&& m = k') := by
          rw [and_nn]
          exact dN_eq
        rw [ed]
        cases e : decide (k' &&& m = k') with
        | true => exact iteT ⟨_, rfl, h1 _ _ (by show (ms[i]?).bind _ = _; rw [hk']; exact if_pos e) sT⟩
        | false => exact iteF (h2 _ (by show (ms[i]?).bind _ = _; rw [hk']; exact if_neg (by rw [e]; exact Bool.false_ne_true)) sT)
      · intro H2 s2 hD2
        have erd : (List.range (vNs ms).length).filterMap (fun i => (ms[i]?).bind fun k => if decide (k &&& m = k) = true then some (vN i) else none) = vNs ((List.range n).filter P) := by
          rw [vNs_len, a2, ← fm_range]
          apply fmc
          intro i hi
          have := List.mem_range.mp hi
          rw [getD_at (by omega : i < ms.length)]
          rfl
        rw [erd] at hD2
        generalize hrd : (List.range n).filter P = rd at hD2
        have x0r : x0 ∈ rd := by
          rw [← hrd]
          exact List.mem_filter.mpr ⟨List.mem_range.mpr x0n, hP0⟩
        have rdn : ∀ x ∈ rd, x < n := fun x hx => by
          rw [← hrd] at hx
          exact List.mem_range.mp (List.mem_filter.mp hx).1
        have rdl : rd.length ≤ n := by
          rw [← hrd]
          have := List.length_filter_le P (List.range n)
          rwa [List.length_range] at this
        refine ⟨_, rfl, D, rfl, ⟨_, SqL.of hD2⟩, fun F hF => lc_fn (walk_list (xs := vNs rd)) (fun i => (rd[i]?).bind fun k => if (!m.testBit k) = true then some (vN k) else none) (by rw [vNs_len]; omega) hF (fun _ sm => SqL.of (sm _ _ hD2)) ?_ ?_⟩
        · rintro i x H3 H4 Qy Qn hi sm ⟨rfl, hz⟩ h1 h2
          obtain ⟨u, hu, rfl⟩ := of_vNs hz
          refine ⟨rfl, ?_⟩
          refine ⟨_, rfl, _, rfl, _, _, rfl, rfl, (by omega), _, _, rfl, rfl, rfl, _, rfl, ?_⟩
          rw [bit_zero]
          cases e : (!m.testBit u) with
          | true => exact iteT ⟨_, rfl, h1 _ _ (by show (rd[i]?).bind _ = _; rw [hu]; exact if_pos e) (Same.refl _)⟩
          | false => exact iteF (h2 _ (by show (rd[i]?).bind _ = _; rw [hu]; exact if_neg (by rw [e]; exact Bool.false_ne_true)) (Same.refl _))
        · intro H3 s3 hF3
          rw [vNs_len, fm_list] at hF3
          have x0f : x0 ∈ rd.filter fun k => !m.testBit k := List.mem_filter.mpr ⟨x0r, by rw [mb, decide_eq_false hx0]; rfl⟩
          have hfm : ∀ x ∈ rd.filter (fun k => !m.testBit k), x < n ∧ x ∉ l := fun x hx => by
            obtain ⟨h1, h2⟩ := List.mem_filter.mp hx
            refine ⟨rdn x h1, fun q => ?_⟩
            rw [mb, decide_eq_true q] at h2
            cases h2
          generalize rd.filter (fun k => !m.testBit k) = fl at hF3 x0f hfm
          cases fl with
          | nil => cases x0f
          | cons y ys =>
            obtain ⟨yn, yl⟩ := hfm y List.mem_cons_self
            have s13 := s1.trans (s2.trans s3)
            have z3 := s3 _ _ (s2 _ _ z1)
            refine r_app1 (i := 1) rfl z3 ?_
            refine ⟨_, rfl, kc (ixl (i := 0) hF3 rfl ?_)⟩
            refine apN z3 (by omega) ?_
            have hFZ : F ≠ Z := fun e => by
              rw [e, s2 _ _ z1] at hF
              cases hF
            refine ⟨_, rfl, _, rfl, kc (ixl (i := 0) (by rw [upd_ne hFZ]; exact hF3) rfl ?_)⟩
            refine shlN (by omega) ?_
            refine orN ?_
            refine ⟨⟨l ++ [y], m ||| 2 ^ y, _, _, _, _, ⟨sm_mut s13 hZ, upd_same⟩, ⟨fun x hx => ?_, by simp; omega, fun x => ?_⟩, rfl⟩, ?_⟩
            · rcases List.mem_append.mp hx with hx | hx
              · exact ln x hx
              · rw [List.mem_singleton.mp hx]
                exact yn
            · rw [bit_or1, mb]
              simp
            · show (match (upd H3 Z (.lst (vNs (l ++ [y])))) Z with | some (.lst ys) => n - ys.length | _ => 0) < (match H1 Z with | some (.lst ys) => n - ys.length | _ => 0)
              rw [upd_same, z1]
              show n - (vNs (l ++ [y])).length < n - (vNs l).length
              rw [vNs_len, vNs_len, List.length_append]
              simp
              omega
    · rw [decide_eq_false hlt]
      exact iteF ⟨_, rfl, q Z H1 hZ s1⟩
  · rintro σ H' Qa Qb hab ⟨v, h1, p, ys, h2, h3, w, h4, p', ys', h2', h3', i, j, h5, h6, k, h7, hq⟩
    exact ⟨v, h1, p, ys, h2, h3, w, h4, p', ys', h2', h3', i, j, h5, h6, k, h7, hab _ _ hq⟩
end Hue
end
section
set_option maxHeartbeats 4000000
namespace Hue
open PySem PySem.Spec PyProof.Rows L2
theorem lk1 (f : Str) (v : V) (fs : List (Str × V)) : (putF f v fs).lookup f = some v := by rw [lookup_putF, if_pos rfl]
theorem lk2 {f g : Str} {v : V} {fs : List (Str × V)} {o : Option V} (h : g ≠ f) (e : fs.lookup g = o) : (putF f v fs).lookup g = o := by rw [lookup_putF, if_neg h]; exact e
theorem putF_len (f : Str) (v : V) : ∀ fs : List (Str × V), (putF f v fs).length ≤ fs.length + 1
  | [] => Nat.le_refl _
  | (g, x) :: r => by
    show (if g = f then (g, v) :: r else (g, x) :: putF f v r).length ≤ _
    split
    · simp
    · have := putF_len f v r
      simp only [List.length_cons]
      omega
theorem Masks.off {H : Hp} {l x : Addr} {n : Nat} {R : Bel} {o : HO} (h : Masks H l n R) (hx : l ≠ x) : Masks (upd H x o) l n R := by
  obtain ⟨ms, h1, h2⟩ := h
  exact ⟨ms, by rw [upd_ne hx]; exact h1, h2⟩
theorem Masks.rm {H : Hp} {l b : Addr} {n : Nat} {R : Bel} (h : Masks H l n R) (hb : l ≠ b) : Masks (rm b H) l n R := by
  obtain ⟨ms, h1, h2⟩ := h
  exact ⟨ms, rm_of h1 hb, h2⟩
theorem WRows.perm {H : Hp} {as bs : List Addr} {ws : List (Nat × Nat)} (h : WRows H as ws) (p : bs.Perm as) : ∀ q ∈ bs, ∃ w ∈ ws, H q = some (.tup (vW w)) := fun q hq => by
  obtain ⟨i, hi⟩ := List.mem_iff_getElem?.mp (p.mem_iff.mp hq)
  obtain ⟨w, hw⟩ := at_ex (l := ws) (i := i) (by rw [← h.1]; exact lt_at hi)
  exact ⟨w, mem_at hw, h.2 i q w hi hw⟩
/-- the new instance: its fields so far, all else as at the entry -/
structure Ins (H0 : Hp) (C x dx : Addr) (k : Nat) (fs : List (Str × V)) (H' : Hp) : Prop where
  sm : Same H0 H'
  at_ : H' x = some (.ins C dx fs)
  le : fs.length ≤ k
theorem Ins.grow {H0 H1 H2 : Hp} {C x dx : Addr} {k : Nat} {fs : List (Str × V)} (h : Ins H0 C x dx k fs H1) (s : Same H1 H2) : Ins H0 C x dx k fs H2 := ⟨h.sm.trans s, s _ _ h.at_, h.le⟩
theorem Ins.put {H0 H1 : Hp} {C x dx : Addr} {k : Nat} {fs : List (Str × V)} (h : Ins H0 C x dx k fs H1) (hx : H0 x = Option.none) (f : Str) (v : V) : Ins H0 C x dx (k + 1) (putF f v fs) (upd H1 x (.ins C dx (putF f v fs))) :=
  ⟨sm_mut h.sm hx, upd_same, by have := putF_len f v fs; have := h.le; omega⟩
theorem psf {K : PySem.W.Frag} {ta tv : TE} {f : Str} {u : TS} {D : L2.Ends} {σ : L2.St} {H : Hp} (q : tv σ H fun y H1 => ta σ H1 fun x H2 => ∃ a C dx fs, x = .ref a ∧ H2 a = some (.ins C dx fs) ∧ Cls K C ∧ NoAttr K C f ∧ fs.length < 1000 ∧ u D σ (upd H2 a (.ins C dx (putF f y fs)))) : tSeq (sFld K ta tv f) u D σ H := q
theorem p_hinit {K : PySem.W.Frag} {cH : Addr} : ∀ vs H Q E, sp_hinit K cH vs H Q E → vs.length = 4 ∧ t_hinit K cH { nx := fun _ H' => Q .non H', rt := Q } (start N_hinit vs) H := by
  rintro vs H Q E ⟨H0, C, x, dx, a, n, h, as, line, ws, rfl, hc, hm, s0, nx, ndx, hxd, hx, hd, ⟨sq, wr, pm, ok, wl, n1, n16, h2, h10⟩, q⟩
  refine ⟨rfl, ?_⟩
  have ln : line.length = n := by rw [pm.length_eq, List.length_range]
  have nd : line.Nodup := pm.nodup_iff.mpr List.nodup_range
  have I0 : Ins H0 C x dx 0 [] H := ⟨s0, hx, Nat.le_refl _⟩
  have un : ∀ {H' : Hp} {k : Nat} {fs : List (Str × V)} {l : Addr}, Ins H0 C x dx k fs H' → H' l = Option.none → l ≠ x := fun I hl e => by
    rw [e, I.at_] at hl
    cases hl
  obtain ⟨mc, u1, cr, cv⟩ := hm.l
  obtain ⟨mc2, u2, cr2, cv2⟩ := hm.h
  -- the checks
  refine ⟨_, rfl, _, rfl, .int _, true, rfl, iteF ?_⟩
  refine ⟨_, rfl, leI (b := true) (decide_eq_true (by omega)) ⟨_, rfl, ?_⟩⟩
  refine iteT ⟨cH, mc, _, u1, rfl, cr, cv, leI (b := true) (decide_eq_true (by omega)) ⟨_, rfl, ?_⟩⟩
  refine iteF ?_
  refine ⟨_, rfl, _, rfl, .int _, true, rfl, iteF ?_⟩
  refine ⟨_, rfl, leI (b := true) (decide_eq_true (by omega)) ⟨_, rfl, ?_⟩⟩
  refine iteT ⟨cH, mc2, _, u2, rfl, cr2, cv2, leI (b := true) (decide_eq_true (by omega)) ⟨_, rfl, ?_⟩⟩
  refine iteF ?_
  -- the masks
  refine ⟨_, rfl, _, rfl, n, h, a, as, line, ws, rfl, ⟨sq.mono s0, wr.mono s0, pm, ok, wl, n1, n16, h2, h10⟩, fun lb H1 nlb s1 mb => ?_⟩
  have lbx := un I0 nlb
  have lb0 : H0 lb = Option.none := s0.free nlb
  have I1 := I0.grow s1
  refine ⟨_, rfl, x, C, dx, _, rfl, I1.at_, hc.cl, hc.n_below_masks, by have := I1.le; omega, ?_⟩
  have J1 := I1.put nx "_below_masks" (.ref lb)
  have b1 := lk1 "_below_masks" (V.ref lb) []
  generalize hf1 : putF "_below_masks" (V.ref lb) [] = fs1 at J1 b1 ⊢
  have M1 := mb.off (o := .ins C dx fs1) lbx
  generalize upd H1 x (.ins C dx fs1) = H2 at J1 M1 ⊢
  refine ⟨_, rfl, x, C, dx, fs1, _, rfl, J1.at_, hc.cl, hc.n_below_masks, b1, lb, bel ws, n, rfl, M1, n16, bel_bd ok pm, fun la H3 nla s3 ma => ?_⟩
  have lax := un J1 nla
  have la0 : H0 la = Option.none := J1.sm.free nla
  have I3 := J1.grow s3
  refine ⟨_, rfl, x, C, dx, _, rfl, I3.at_, hc.cl, hc.n_above_masks, by have := I3.le; omega, ?_⟩
  have J3 := I3.put nx "_above_masks" (.ref la)
  have b3 : (putF "_above_masks" (V.ref la) fs1).lookup ("_below_masks" : Str) = some (V.ref lb) := lk2 (by decide +kernel) b1
  have a3 := lk1 "_above_masks" (V.ref la) fs1
  generalize hf3 : putF "_above_masks" (V.ref la) fs1 = fs3 at J3 b3 a3 ⊢
  have M3 := (M1.mono s3).off (o := .ins C dx fs3) lbx
  have A3 := ma.off (o := .ins C dx fs3) lax
  generalize upd H3 x (.ins C dx fs3) = H4 at J3 M3 A3 ⊢
  -- what hangs beneath, above
  have bitsOf : ∀ (H5 : Hp) (k : Nat) (fs : List (Str × V)) (lm : Addr) (R : Bel) (f : Str) (Qv : VK), NoAttr K C f → Ins H0 C x dx k fs H5 → Masks H5 lm n R → fs.lookup f = some (.ref lm) → (∀ z H', H5 z = Option.none → Same H5 H' → Qv (.ref z) H') →
      tLc (iList K (tFld K (tVar 0) f)) (gName 6) tYes (tCl (sp_bits K) E0 (tCons (tVar 6) tNil)) [6] [some (.ref x), some (vN n), some (.int h), some (.ref a), none, none, none, none] H5 Qv := by
    intro H5 k fs lm R f Qv na I5 M5 hf hq
    obtain ⟨ms, m1, m2, m3⟩ := M5
    refine ⟨_, rfl, x, C, dx, fs, _, rfl, I5.at_, hc.cl, na, hf, lm, rfl, ⟨_, SqL.of m1⟩, fun D hD => lc_rel (walk_list (xs := vNs ms)) (fun _ _ _ => True) (fun _ _ _ _ _ _ => trivial) (by rw [vNs_len]; omega) hD (fun _ sm => SqL.of (sm _ _ m1)) ?_ ?_ gn_mono⟩
    · rintro i y H6 H7 Qy hi sm _ ⟨rfl, hy⟩ h1
      obtain ⟨m, hmi, rfl⟩ := of_vNs hy
      refine ⟨rfl, ?_⟩
      exact ⟨_, rfl, m, n, rfl, n16, row_small (m3 i m hmi), fun p H8 hp s8 hl => h1 _ _ trivial s8⟩
    · intro ys H6 _ _ sm hD6
      exact hq D H6 hD sm
  dsimp only
  refine psf ?_
  refine bitsOf H4 _ fs3 lb _ "_below_masks" _ hc.n_below_masks J3 M3 b3 fun zb H5 nzb s5 => ?_
  have I5 := J3.grow s5
  refine ⟨_, rfl, x, C, dx, _, rfl, I5.at_, hc.cl, hc.n_below, by have := I5.le; omega, ?_⟩
  have J5 := I5.put nx "_below" (.ref zb)
  have b5 : (putF "_below" (V.ref zb) fs3).lookup ("_below_masks" : Str) = some (V.ref lb) := lk2 (by decide +kernel) b3
  have a5 : (putF "_below" (V.ref zb) fs3).lookup ("_above_masks" : Str) = some (V.ref la) := lk2 (by decide +kernel) a3
  generalize hf5 : putF "_below" (V.ref zb) fs3 = fs5 at J5 b5 a5 ⊢
  have M5 := (M3.mono s5).off (o := .ins C dx fs5) lbx
  have A5 := (A3.mono s5).off (o := .ins C dx fs5) lax
  generalize upd H5 x (.ins C dx fs5) = H6 at J5 M5 A5 ⊢
  skip
  refine psf ?_
  refine bitsOf H6 _ fs5 la _ "_above_masks" _ hc.n_above_masks J5 A5 a5 fun za H7 nza s7 => ?_
  have I7 := J5.grow s7
  refine ⟨_, rfl, x, C, dx, _, rfl, I7.at_, hc.cl, hc.n_above, by have := I7.le; omega, ?_⟩
  have J7 := I7.put nx "_above" (.ref za)
  have b7 : (putF "_above" (V.ref za) fs5).lookup ("_below_masks" : Str) = some (V.ref lb) := lk2 (by decide +kernel) b5
  have a7 : (putF "_above" (V.ref za) fs5).lookup ("_above_masks" : Str) = some (V.ref la) := lk2 (by decide +kernel) a5
  generalize hf7 : putF "_above" (V.ref za) fs5 = fs7 at J7 b7 a7 ⊢
  have M7 := (M5.mono s7).off (o := .ins C dx fs7) lbx
  have A7 := (A5.mono s7).off (o := .ins C dx fs7) lax
  generalize upd H7 x (.ins C dx fs7) = H8 at J7 M7 A7 ⊢
  -- the order
  refine ⟨_, rfl, x, C, dx, fs7, _, rfl, J7.at_, hc.cl, hc.n_above_masks, a7, la, bel ws, n, line, rfl, A7, n16, pm, (fun v w e => path_idx ok nd (bel_iff.mp e)), fun od H9 nod s9 => ?_⟩
  have I9 := J7.grow s9
  refine ⟨_, rfl, x, C, dx, _, rfl, I9.at_, hc.cl, hc.n_order, by have := I9.le; omega, ?_⟩
  have J9 := I9.put nx "_order" (.ref od)
  have b9 : (putF "_order" (V.ref od) fs7).lookup ("_below_masks" : Str) = some (V.ref lb) := lk2 (by decide +kernel) b7
  have a9 : (putF "_order" (V.ref od) fs7).lookup ("_above_masks" : Str) = some (V.ref la) := lk2 (by decide +kernel) a7
  generalize hf9 : putF "_order" (V.ref od) fs7 = fs9 at J9 b9 a9 ⊢
  have M9 := (M7.mono s9).off (o := .ins C dx fs9) lbx
  have A9 := (A7.mono s9).off (o := .ins C dx fs9) lax
  generalize upd H9 x (.ins C dx fs9) = H10 at J9 M9 A9 ⊢
  -- count, hues
  refine ⟨_, rfl, _, rfl, x, C, dx, _, rfl, J9.at_, hc.cl, hc.n_count, by have := J9.le; omega, ?_⟩
  have J11 := J9.put nx "count" (vN n)
  have b11 : (putF "count" (vN n) fs9).lookup ("_below_masks" : Str) = some (V.ref lb) := lk2 (by decide +kernel) b9
  have a11 : (putF "count" (vN n) fs9).lookup ("_above_masks" : Str) = some (V.ref la) := lk2 (by decide +kernel) a9
  have c11 := lk1 "count" (vN n) fs9
  generalize hf11 : putF "count" (vN n) fs9 = fs11 at J11 b11 a11 c11 ⊢
  have M11 := M9.off (o := .ins C dx fs11) lbx
  have A11 := A9.off (o := .ins C dx fs11) lax
  generalize upd H10 x (.ins C dx fs11) = H11 at J11 M11 A11 ⊢
  refine ⟨_, rfl, _, rfl, x, C, dx, _, rfl, J11.at_, hc.cl, hc.n_hues, by have := J11.le; omega, ?_⟩
  have J12 := J11.put nx "hues" (.int h)
  have b12 : (putF "hues" (.int h) fs11).lookup ("_below_masks" : Str) = some (V.ref lb) := lk2 (by decide +kernel) b11
  have a12 : (putF "hues" (.int h) fs11).lookup ("_above_masks" : Str) = some (V.ref la) := lk2 (by decide +kernel) a11
  have c12 : (putF "hues" (.int h) fs11).lookup ("count" : Str) = some (vN n) := lk2 (by decide +kernel) c11
  have h12 := lk1 "hues" (V.int h) fs11
  generalize hf12 : putF "hues" (.int h) fs11 = fs12 at J12 b12 a12 c12 h12 ⊢
  have M12 := M11.off (o := .ins C dx fs12) lbx
  have A12 := A11.off (o := .ins C dx fs12) lax
  generalize upd H11 x (.ins C dx fs12) = H12 at J12 M12 A12 ⊢
  -- the wires
  refine ⟨_, rfl, a, as, ws, rfl, sq.mono J12.sm, wr.mono J12.sm, by omega, fun sl bs nsl bp => ?_⟩
  have ssl := sm_new (o := .lst (bs.map V.ref)) nsl
  refine ⟨sl, _, rfl, .inl ⟨SqL.of upd_same, fun tw ntw => ?_⟩⟩
  have stw := ssl.trans (sm_new (o := .tup (bs.map V.ref)) ntw)
  have twx := un (J12.grow ssl) ntw
  have I13 := J12.grow stw
  have t13 : (upd (upd H12 sl (.lst (bs.map V.ref))) tw (.tup (bs.map V.ref))) tw = some (.tup (bs.map V.ref)) := upd_same
  have M13a := M12.mono stw
  have A13a := A12.mono stw
  generalize (upd (upd H12 sl (.lst (bs.map V.ref))) tw (.tup (bs.map V.ref))) = H13 at I13 t13 M13a A13a ⊢
  refine ⟨_, rfl, x, C, dx, _, rfl, I13.at_, hc.cl, hc.n_wires, by have := I13.le; omega, ?_⟩
  have J13 := I13.put nx "wires" (.ref tw)
  have b13 : (putF "wires" (V.ref tw) fs12).lookup ("_below_masks" : Str) = some (V.ref lb) := lk2 (by decide +kernel) b12
  have a13 : (putF "wires" (V.ref tw) fs12).lookup ("_above_masks" : Str) = some (V.ref la) := lk2 (by decide +kernel) a12
  have c13 : (putF "wires" (V.ref tw) fs12).lookup ("count" : Str) = some (vN n) := lk2 (by decide +kernel) c12
  have h13 : (putF "wires" (V.ref tw) fs12).lookup ("hues" : Str) = some (.int h) := lk2 (by decide +kernel) h12
  have w13 := lk1 "wires" (V.ref tw) fs12
  generalize hf13 : putF "wires" (V.ref tw) fs12 = fs13 at J13 b13 a13 c13 h13 w13 ⊢
  have M13 := M13a.off (o := .ins C dx fs13) lbx
  have A13 := A13a.off (o := .ins C dx fs13) lax
  have t14 : (upd H13 x (.ins C dx fs13)) tw = some (.tup (bs.map V.ref)) := by rw [upd_ne twx]; exact t13
  generalize upd H13 x (.ins C dx fs13) = H14 at J13 M13 A13 t14 ⊢
  -- direct
  refine ⟨_, rfl, _, rfl, by omega, by omega, fun D hD => lc_empty (walk_range (lo := 0) (n := n)) (by omega) hD (fun _ _ => trivial) (fun _ _ _ _ y => y.1) (fun x H' Q h => h _ rfl) ?_⟩
  intro ds H15 dsl dsn fr s15 hD15 he
  have I15 := J13.grow s15
  have t15 := s15 _ _ t14
  refine ⟨_, rfl, x, C, dx, _, rfl, I15.at_, hc.cl, hc.n_direct, by have := I15.le; omega, ?_⟩
  have J15 := I15.put nx "_direct" (.ref D)
  have b15 : (putF "_direct" (V.ref D) fs13).lookup ("_below_masks" : Str) = some (V.ref lb) := lk2 (by decide +kernel) b13
  have a15 : (putF "_direct" (V.ref D) fs13).lookup ("_above_masks" : Str) = some (V.ref la) := lk2 (by decide +kernel) a13
  have c15 : (putF "_direct" (V.ref D) fs13).lookup ("count" : Str) = some (vN n) := lk2 (by decide +kernel) c13
  have h15 : (putF "_direct" (V.ref D) fs13).lookup ("hues" : Str) = some (.int h) := lk2 (by decide +kernel) h13
  have w15 : (putF "_direct" (V.ref D) fs13).lookup ("wires" : Str) = some (.ref tw) := lk2 (by decide +kernel) w13
  have d15 := lk1 "_direct" (V.ref D) fs13
  generalize hf15 : putF "_direct" (V.ref D) fs13 = fs15 at J15 b15 a15 c15 h15 w15 d15 ⊢
  have M15 := (M13.mono s15).off (o := .ins C dx fs15) lbx
  have A15 := (A13.mono s15).off (o := .ins C dx fs15) lax
  have Dx : D ≠ x := un J13 hD
  have dsx : ∀ r ∈ ds, r ≠ x := fun r hr => un J13 (fr r hr).1
  have t16 : (upd H15 x (.ins C dx fs15)) tw = some (.tup (bs.map V.ref)) := by rw [upd_ne twx]; exact t15
  have D16 : (upd H15 x (.ins C dx fs15)) D = some (.lst (ds.map V.ref)) := by rw [upd_ne Dx]; exact hD15
  have e16 : ∀ r ∈ ds, (upd H15 x (.ins C dx fs15)) r = some (.lst []) := fun r hr => by rw [upd_ne (dsx r hr)]; exact he r hr
  generalize upd H15 x (.ins C dx fs15) = H16 at J15 M15 A15 t16 D16 e16 ⊢
  have frH : ∀ r ∈ ds, H0 r = Option.none := fun r hr => J13.sm.free (fr r hr).1
  have ne_ds : ∀ r ∈ ds, r ≠ lb ∧ r ≠ la ∧ r ≠ tw ∧ r ≠ D := fun r hr => by
    have h14 := (fr r hr).1
    obtain ⟨_, m1, _⟩ := M13
    obtain ⟨_, m2, _⟩ := A13
    exact ⟨Ne.symm (ne_of_none m1 h14), Ne.symm (ne_of_none m2 h14), Ne.symm (ne_of_none t14 h14), (fr r hr).2⟩
  have wl2 : (bs.map V.ref).length ≤ 256 := by rw [List.length_map, bp.length_eq, wr.1]; exact wl
  refine ⟨_, rfl, x, C, dx, fs15, _, rfl, J15.at_, hc.cl, hc.n_wires, w15, tw, rfl, ⟨_, SqT.of t16⟩, for_tup (xs := bs.map V.ref) (fun i σ H' => ∃ (o4 o5 : Option V), Ins H0 C x dx 20 fs15 H' ∧ (Masks H' lb n (bel ws) ∧ Masks H' la n (rev (bel ws))) ∧ (H' tw = some (.tup (bs.map V.ref)) ∧ H' D = some (.lst (ds.map V.ref))) ∧ (∀ r ∈ ds, ∃ xs, H' r = some (.lst xs) ∧ xs.length ≤ i) ∧
    σ = [some (.ref x), some (vN n), some (.int h), some (.ref a), o4, o5, none, none]) ⟨_, _, ⟨J15.sm, J15.at_, by have := J15.le; omega⟩, ⟨M15, A15⟩, ⟨t16, D16⟩, fun r hr => ⟨[], e16 r hr, Nat.le_refl _⟩, rfl⟩ (fun i σ H' _ p => ?_) ?_ ?_⟩
  · obtain ⟨_, _, _, _, p, _⟩ := p
    exact SqT.of p.1
  · rintro i y σ H17 hy ⟨o4, o5, I, ⟨M, A⟩, ⟨t, d⟩, rs, rfl⟩
    have hil : i < bs.length := by
      have := lt_at hy
      rwa [List.length_map] at this
    have hib : (bs.map V.ref).length = bs.length := List.length_map _
    obtain ⟨wp, hwp⟩ := at_ex hil
    rw [List.getElem?_map, hwp] at hy
    cases Option.some.inj hy
    obtain ⟨⟨u, w⟩, hm, hw⟩ := wr.perm bp wp (mem_at hwp)
    obtain ⟨iu, iw, hlt, hu, hw2⟩ := ok.dn u w hm
    have un' := line_lt pm hu
    refine ⟨wp, _, rfl, SqT.of (I.sm _ _ hw), rfl, _, _, rfl, _, _, rfl, rfl, ?_⟩
    obtain ⟨r, hr⟩ := at_ex (l := ds) (i := u) (by omega)
    obtain ⟨xs, x1, x2⟩ := rs r (mem_at hr)
    obtain ⟨q1, q2, q3, q4⟩ := ne_ds r (mem_at hr)
    refine ⟨_, rfl, x, C, dx, fs15, _, rfl, I.at_, hc.cl, hc.n_direct, d15, ?_⟩
    refine ⟨_, rfl, ixL d (by rw [List.getElem?_map, hr]; rfl) ?_⟩
    refine ⟨ty_list x1, _, rfl, ?_⟩
    refine ⟨r, xs, _, rfl, rfl, x1, n_lt (by omega), ?_⟩
    have hrx := dsx r (mem_at hr)
    refine ⟨_, _, ⟨sm_mut I.sm (frH r (mem_at hr)), by rw [upd_ne (Ne.symm hrx)]; exact I.at_, I.le⟩, ⟨M.off (Ne.symm q1), A.off (Ne.symm q2)⟩, ⟨by rw [upd_ne (Ne.symm q3)]; exact t, by rw [upd_ne (Ne.symm q4)]; exact d⟩, fun r' hr' => ?_, rfl⟩
    by_cases e : r' = r
    · subst e
      exact ⟨_, upd_same, by rw [List.length_append]; simp; omega⟩
    · obtain ⟨ys, y1, y2⟩ := rs r' hr'
      exact ⟨ys, by rw [upd_ne e]; exact y1, by omega⟩
  · rintro σ H17 ⟨o4, o5, I, ⟨M, A⟩, ⟨t, d⟩, rs, rfl⟩
    refine q H17 I.sm fun b o hb => ⟨⟨C, dx, fs15, lb, la, rm_of I.at_ (fun e => ?_), hc.cl, hc.n_count, hc.n_hues, hc.n_below_masks, hc.n_above_masks, c15, h15, b15, a15, M.rm (fun e => ?_), A.rm (fun e => ?_)⟩, ⟨n1, n16⟩, ⟨h2, h10⟩, bel_bd ok pm⟩
    · rw [← e, nx] at hb
      cases hb
    · rw [← e, lb0] at hb
      cases hb
    · rw [← e, la0] at hb
      cases hb
end Hue
end
section
set_option maxHeartbeats 4000000
namespace Hue
open PySem PySem.Spec PyProof.Rows L2
/-! ### a def with one keyword-only parameter that is always written -/
structure CalK (P : Program) (w : World) (K : PySem.W.Frag) (mg : Str → Option Value) (base : Heap) (CX : CXT) (k : Nat) (x : Str) (ps : List Str) (sp : Sp) : Prop where
  ex : ∃ (f : Addr) (fd : FuncData), FnOk P w K mg base CX k f fd ps sp ∧ mg x = some (.ref f) ∧ PySem.W.keepIn K (.ref f) = true ∧ KBn K fd ps 3 ["careful"] (fun us ws => us ++ ws) (fun vs zs => vs ++ zs)
abbrev DefK := Def
abbrev BindK (x : Str) (st : Stmt) (ps : List Str) : Prop :=
  ∀ (kV doc pm : Value) (an : Option Addr) (cdv ct : Value) (us ws : List Value), us.length = 3 → ws.length = 1 → bindArgs (PySem.W.fnOf x x (defArgs st) (defBody st) (defScope st) .none kV doc pm an cdv ct) ⟨us, [("careful" : Str)].zip ws⟩ = pure (ps.zip (us ++ ws))
theorem vals_app {xs ys : List V} {us ws : List Value} (h : Vals xs us) (g : Vals ys ws) : Vals (xs ++ ys) (us ++ ws) := h.append g
section
variable {P : Program} {w : World} {K : PySem.W.Frag} {mg : Str → Option Value} {base : Heap} {i k : Nat} {x : Str} {N ps : List Str} {sp : Sp}
theorem cal_mkK (t : TS) (D : DefK K mg i x) (S : FnScope N ps (defScope (top i))) (B : BindK x (top i) ps)
    (hd : ∀ (f : Addr) (cdv : Value) (A : Around) (outer : List Env) (s : Shared) (H : Hp) (E : XK), Room k (A.deeper (envOfC x (defScope (top i)) s.heap.objs.size f cdv)) →
      PSs (cxOf CX0 P w K mg base N x (defScope (top i)) f cdv A outer s H E).nox (defBody (top i)) t)
    (hp : ∀ vs H Q E, sp vs H Q E → vs.length = ps.length ∧ t { nx := fun _ H' => Q .non H', rt := Q } (start N vs) H) : CalK P w K mg base CX0 (k + 1) x ps sp := by
  obtain ⟨f, fd, F, hf⟩ := D.ex
  have ok := F.ok S (fun vs H Q E h => (hp vs H Q E h).1) (fun cdv A outer s H vs Q E hr h => ⟨t, hd f cdv A outer s H E hr, (hp vs H Q E h).2⟩)
  have kp := F.kp
  obtain ⟨oc, od, kV, doc, pm, an, cdv, ct, osl, rfl, lk, hcd⟩ := F.ex
  exact ⟨f, _, ok, hf, kp, ⟨fun s us ws _ h1 h2 => BindsTo.of_eq (B kV doc pm an cdv ct us ws h1 h2), fun h1 h2 => vals_app h1 h2⟩⟩
end
theorem pe_clK {X : Cx} {CX : CXT} {k : Nat} {x : Str} {ps : List Str} {sp : Sp} {E : XK} {t tk : TA} {p pos : Pos} {e : Expr} {es : List Expr} {kws : List Keyword} (C : CalK X.prog X.w X.K X.mg X.base CX k x ps sp) (hr : Room k X.A) (hg : Gl X x) (hx : Passes CX X E) (ha : PA X (e :: es) t) (hkw : PK X kws tk)
    (hall : (backToKw pos (keywordEach kws X.env)).all (·.1.isSome) = true := by rfl) (hks : (backToKw pos (keywordEach kws X.env)).filterMap (·.1) = [("careful" : Str)] := by rfl)
    (hdb : (x == ("__debug__" : Str)) = false := by decide) (he : starEach (e :: es) X.env = (false, eval e X.env) :: starEach es X.env := by rfl)
    (hpl : ((backTo pos (starEach (e :: es) X.env)).any (·.1) || (backToKw pos (keywordEach kws X.env)).any (·.1.isNone)) = false := by rfl) : PE X (.Call (.Name x p) (e :: es) kws pos) (tClK sp E t tk) := by
  obtain ⟨f, fd, F, hm, hk, hb⟩ := C.ex
  exact pe_callN F hr hg hm hk hb hx ha hkw hall hks hdb he hpl
end Hue
end
section
set_option maxHeartbeats 4000000
namespace Hue
open PySem PySem.Spec PyProof.Rows L2
open Sem (wp)
theorem enq_new {v : Value} {o : Obj} {Hh : Heap → Prop} (B : Begins v o Hh) :
    Meets (Builtin.«enumerate.__new__» ⟨[.type "enumerate", v], []⟩) (fun _ R s => Hh s.heap ∧
      R (.ok (.ret (.ref (s.heap.push o).objs.size))) { s with heap := (s.heap.push o).push { cls := .type "enumerate", data := .fields #[.none, .bool false, .ref s.heap.objs.size, rawInt 0, .none, .none] } }) :=
  .of_wp fun P0 w0 A0 R0 s0 h0 => by
    obtain ⟨hp0, g0, d0, tk0, os0⟩ := s0
    obtain ⟨b1, r1⟩ := h0
    have hsb := sub_enumerate
    have q1 : ∀ {A1 : Around} {E1 : Value → Shared → Prop} {Q1 : Value → Shared → Prop}, Q1 (.ref hp0.objs.size) ⟨hp0.push o, g0, d0, tk0, os0⟩ → wpAny (model P0 w0) A1 (pyIter v) Q1 E1 ⟨hp0, g0, d0, tk0, os0⟩ :=
      fun q => B.iter P0 w0 _ _ ⟨hp0, g0, d0, tk0, os0⟩ _ b1 q
    wp_walk using q1
    refine wpAny_stack_any fun st0 => wpAny_pure ?_
    split
    · rename_i c0 _ _ _ _ _
      cases (c0 == Value.type "enumerate")
      · wp_walk using q1
        exact ⟨_, rfl, r1⟩
      · wp_walk using q1
        exact ⟨_, rfl, r1⟩
    · wp_walk using q1
      exact ⟨_, rfl, r1⟩
theorem enq_call {P0 : Program} {w0 : World} {A0 : Around} {E0' : Value → Shared → Prop} {s0 : Shared} {v : Value} {o : Obj} {Hh : Heap → Prop} {Q0 : Value → Shared → Prop} (B : Begins v o Hh) (h1 : Hh s0.heap)
    (h : ∀ h', IsEnum h' (s0.heap.objs.size + 1) s0.heap.objs.size 0 .none → h'.get? s0.heap.objs.size = some o → (∀ b o, s0.heap.get? b = some o → h'.get? b = some o) → Q0 (.ref (s0.heap.objs.size + 1)) { s0 with heap := h' }) :
    wpAny (model P0 w0) A0 (call (.type "enumerate") [v]) Q0 E0' s0 := by
  refine callType_new F.called_enumerate (by decide) (F.typeCall_enumerate_1 _) (F.newCall_enumerate_1 _) (fun obj => F.args_object_init_2 obj _) F.entry_enumerate_new (enq_new B) ⟨h1, ?_⟩
  have hz : (s0.heap.push o).objs.size = s0.heap.objs.size + 1 := Heap.size_push ..
  show _ ∧ _
  rw [hz]
  have he : IsEnum ((s0.heap.push o).push { cls := .type "enumerate", data := .fields #[.none, .bool false, .ref s0.heap.objs.size, rawInt 0, .none, .none] }) (s0.heap.objs.size + 1) s0.heap.objs.size 0 .none := by
    have hq := Heap.get?_push_size (s0.heap.push o) (o := { cls := .type "enumerate", data := .fields #[.none, .bool false, .ref s0.heap.objs.size, rawInt 0, .none, .none] }) rfl
    rwa [hz] at hq
  exact ⟨⟨_, he, rfl⟩, h _ he (Heap.get?_push_of_some _ (Heap.get?_push_size _ B.free)) fun b u e => Heap.get?_push_of_some _ (Heap.get?_push_of_some _ e)⟩

theorem turn_enq {P0 : Program} {w0 : World} {K : PySem.W.Frag} {elts : List Expr} {kk : Nat} {tpos : Pos} (a e it : Addr) :
    Turn P0 w0 K (.Tuple elts kk tpos) (IteT K a) [e, it] e (fun i h => (∃ old, IsEnum h e it ((i : Nat) : Int) old) ∧ h.IsTupleIter it a i ∧ e ≠ it ∧ a ≠ e ∧ a ≠ it) where
  mem := by simp
  obj := fun i h st b hb => by
    obtain ⟨⟨old, he⟩, ⟨o, ho, hc, hd⟩, _⟩ := st
    rcases (by simpa using hb : b = e ∨ b = it) with rfl | rfl
    · exact ⟨_, he, fun v q => nomatch q⟩
    · exact ⟨o, ho, fun v q => by rw [hd] at q; cases q⟩
  keep := fun i h h' st k => let ⟨⟨old, he⟩, hi, hne⟩ := st; ⟨⟨old, k e (by simp) _ he⟩, hi.at fun o q => k it (by simp) o q, hne⟩
  item := by
    intro X hP hw hK hc i pins s σ H E I hf st hg
    subst hP hw hK
    obtain ⟨⟨old, he⟩, hit, hne, hae, hai⟩ := st
    obtain ⟨xs, x, hq, hx⟩ := hg
    obtain ⟨its, rv, pl, hz⟩ := I.tuple hq
    obtain ⟨u, hu, ru⟩ := rv.get hx
    have hel : e < s.heap.objs.size := Heap.lt_size he
    have hil : it < s.heap.objs.size := by obtain ⟨_, q, _⟩ := hit; exact Heap.lt_size q
    have hlen : i < its.toArray.size := by
      have := (List.getElem?_eq_some_iff.mp hu).1
      simpa using this
    have hef : e ∉ [it, a] := by
      intro q
      rcases (by simpa using q : e = it ∨ e = a) with z | z
      · exact hne z
      · exact hae z.symm
    refine wpAny_pyNext_enum_itemD (Draws.tuple (A := X.A.in1) (I.ok.hd hc) it a hai its.toArray) he ⟨hit, pl⟩ hlen hne hef fun x' h' tk hx' ho hst' hT hsz hk => ?_
    have ex : x' = u := by
      have h1 : its.toArray[i]? = some x' := hx'
      rw [List.getElem?_toArray, hu] at h1
      exact (Option.some.inj h1).symm
    subst ex
    refine ⟨_, rfl, wpAny_letOwnedTupleGo_enum (s := { s with heap := h', toks := tk + 1 }) ho fun h'' he' sb => ?_⟩
    have hT2 : h''.get? s.heap.objs.size = some { cls := .type "tuple", data := .seq #[.int i tk, x'] } := (sb.2 _ (Nat.ne_of_gt hel)).trans hT
    have new : ObjOk X.prog X.w (upd H s.heap.objs.size (.tup [.int (i : Nat), x])) h'' s.heap.objs.size (.tup [.int (i : Nat), x]) :=
      ⟨n_line (by show 2 ≤ _; decide), [.int i tk, x'], .cons ⟨_, rfl⟩ (.cons ru .nil), ⟨_, hT2, rfl, _, rfl⟩⟩
    have I1 : Inv X pins σ (upd H s.heap.objs.size (.tup [.int (i : Nat), x])) { s with heap := h'', toks := tk + 1 } :=
      I.turnedNew (ch := [e, it]) (fun b ob hb q => (sb.2 b (fun z => hb (by simp [z]))).trans (hk b ob (fun z => hb (by simp [z])) (fun z => hb (by simp [z])) q)) hf (Nat.le_refl _) new
    refine ⟨.ref s.heap.objs.size, _, I1, rfl, ⟨_, x, rfl, I.hok.fresh (Nat.le_refl _), rfl, fun ys hy => by rw [I.tuple_inj hy hq]; exact hx⟩, ⟨⟨x', ?_⟩, hst'.1.at fun o q => (sb.2 it (Ne.symm hne)).trans q, hne, hae, hai⟩, fun b hb => ?_⟩
    · have e1 : ((i + 1 : Nat) : Int) = (i : Int) + 1 := by omega
      rw [e1]
      exact he'
    · have hb' : b < s.heap.objs.size := by
        rcases (by simpa using hb : b = e ∨ b = it) with z | z
        · rw [z]
          exact hel
        · rw [z]
          exact hil
      rw [upd_ne (Nat.ne_of_lt hb')]
      exact (hf b hb).1
  done := by
    intro X hP hw hK hc i pins s σ H E I hf st hg
    subst hP hw hK
    obtain ⟨⟨old, he⟩, hit, hne, hae, hai⟩ := st
    obtain ⟨xs, hq, hx⟩ := hg
    obtain ⟨its, rv, pl, hz⟩ := I.tuple hq
    obtain ⟨f0, f1, f2, f3, f4, f5⟩ := hf it (by simp)
    have hl := rv.length
    have hsz : its.toArray.size = i := by
      rw [List.size_toArray]
      omega
    have hst : s.heap.IsTupleIter it a its.toArray.size ∧ s.heap.IsTuple a its.toArray := ⟨by rw [hsz]; exact hit, pl⟩
    exact wpAny_pyNext_enum_endD (Draws.tuple (A := X.A.in1) (I.ok.hd hc) it a hai its.toArray) he hst fun h' eb => ⟨rfl, I.turned (t' := s.toks) (fun b o hb q => eb b o hb q) f0 f1 f3 f4 f5⟩
  self := fun A i s Q E st h => let ⟨⟨_, he⟩, _⟩ := st; wpAny_pyIter_enum he h
/-- enumerate(e): e a list or a tuple -/
theorem pi_enumQ {X : Cx} {e : Expr} {ta : TA} {p pos tpos : Pos} {elts : List Expr} {kk : Nat} (hg : Gl X "enumerate") (hm : X.mg "enumerate" = none) (ha : PA X [e] ta) (hs : starEach [e] X.env = [(false, eval e X.env)] := by rfl) :
    PI X (.Tuple elts kk tpos) (.Call (.Name "enumerate" p) [e] [] pos) (iEnumQ X.K ta) := by
  refine ⟨fun pins s σ H R I h => ?_⟩
  refine Call_ (ld_blt I hg hm boot_enumerate (PyProof.Rows.callWith_type1 (thn (ha.run pos pins s σ H _ I h) fun us s1 ⟨vs, H1, I1, r1, q1⟩ => ?_) hs rfl))
  obtain ⟨a, xs, ex, q⟩ := q1
  subst ex
  cases r1 with
  | cons r rr =>
    cases rr
    cases r
    have new2 : ∀ {h' : Heap}, (∀ b o, s1.heap.get? b = some o → h'.get? b = some o) → ∀ b ∈ [s1.heap.objs.size + 1, s1.heap.objs.size], FpOk X pins H1 b := fun hk b hb => by
      have hle : s1.heap.objs.size ≤ b := by
        rcases (by simpa using hb : b = s1.heap.objs.size + 1 ∨ b = s1.heap.objs.size) with z | z
        · rw [z]
          exact Nat.le_add_right _ _
        · rw [z]
          exact Nat.le_refl _
      exact I1.fpOk hle (I1.hok.fresh hle)
    rcases q with ⟨hq, q⟩ | ⟨hq, q⟩
    · obtain ⟨its, rv, pl, hz⟩ := I1.list hq
      refine call_enumerate_list pl.isList fun h' he hit hsz hk => wpAny_pyIter_enum he ?_
      exact ⟨s1.heap.objs.size + 1, [s1.heap.objs.size + 1, s1.heap.objs.size], _, _, H1, rfl, I1.kept (t' := s1.toks) hk, turn_enum a (s1.heap.objs.size + 1) s1.heap.objs.size, ⟨⟨.none, he⟩, hit, Nat.succ_ne_self _⟩, new2 hk, q⟩
    · obtain ⟨its, rv, pl, hz⟩ := I1.tuple hq
      have hal : a < s1.heap.objs.size := by
        obtain ⟨_, z, _⟩ := pl
        exact Heap.lt_size z
      refine enq_call (begins_tuple a its.toArray) pl fun h' he hit hk => wpAny_pyIter_enum he ?_
      exact ⟨s1.heap.objs.size + 1, [s1.heap.objs.size + 1, s1.heap.objs.size], _, _, H1, rfl, I1.kept (t' := s1.toks) hk, turn_enq a (s1.heap.objs.size + 1) s1.heap.objs.size, ⟨⟨.none, he⟩, ⟨_, hit, rfl, rfl⟩, Nat.succ_ne_self _, Nat.ne_of_lt (Nat.lt_succ_of_lt hal), Nat.ne_of_lt hal⟩, new2 hk, q⟩
end Hue
end
section
set_option maxHeartbeats 4000000
namespace Hue
open PySem PySem.Spec PyProof.Rows L2
/-! ### the error's __init__: super().__init__('..'); self.lamp = lamp -/
def ilDef : Stmt := inClass (top 4) 0
abbrev ilBody : List Stmt := defBody ilDef
abbrev ilScope : Scope := defScope ilDef
/-- what the written part says of the error's class and its __init__ -/
structure IlC (P : Program) (K : PySem.W.Frag) (mg : Str → Option Value) (C fI : Addr) : Prop where
  oex : OexC K C
  fn : ∃ (oc : Value) (od : Option Addr) (kV doc pm : Value) (an : Option Addr) (cda : Addr) (ct : Value) (cc : Addr) (osl : Array (Option Value)) (ccl : Value) (cdd : Option Addr) (vs : Array Value) (ccs : Array (Option Value)) (file : Str) (tf : Tok) (cl : Value) (cld : Option Addr) (csl : Array (Option Value)),
    K.lookup fI = some ⟨oc, od, .func (PySem.W.ksFn "__init__" "InvalidLamp.__init__" (defArgs ilDef) ilBody ilScope .none kV doc pm an (.ref cda) ct cc), osl⟩ ∧ PySem.W.codeIn K (.ref cda) "InvalidLamp.__init__" = true ∧
    K.lookup cda = some ⟨ccl, cdd, .fields vs, ccs⟩ ∧ vs[2]? = some (.str file tf) ∧ ((P.main.file : Str) == file) = true ∧ K.lookup cc = some ⟨cl, cld, .cell (some (.ref C)), csl⟩
  msuper : mg "super" = none
  top : (P.main.scope.names.lookup ("super" : Str)).isSome = false
  self : PySem.W.mroIn K C (.ref C) = some true
  along : PySem.W.ks_superIn K C C "__init__" = some (some (.builtin "ValueError.__init__"))
  subV : PySem.W.subIn K (.ref C) (.type "ValueError") = some true
  third : PySem.W.nsIn K PySem.cStatics "thirdparty.any" = some none
  noL : PySem.W.findIn K (.ref C) "lamp" = some none
  mgC : mg "InvalidLamp" = some (.ref C)
  iC : PySem.W.findIn K (.ref C) "__init__" = some (some (.ref fI))
  tI : PySem.W.typeIn K (.ref fI) = some (.type "function")
/-- the exception ahead of its dict -/
abbrev exN (C t1 : Addr) : Obj := { cls := .ref C, dict := none, data := .fields #[.ref t1, .none, .none, .none, .bool false, .none] }
abbrev exD (C t1 dx : Addr) : Obj := { cls := .ref C, dict := some dx, data := .fields #[.ref t1, .none, .none, .none, .bool false, .none] }
theorem il_body : ∃ p0 p1 p2 p3 p4 p5 p6 p7 p8 p9 txt kk, ilBody = [.Expr (.Call (.Attribute (.Call (.Name "super" p0) [] [] p1) "__init__" p2) [.Constant (.str txt) kk p3] [] p4) p5, .Assign [.Attribute (.Name "self" p6) "lamp" p7] (.Name "lamp" p8) p9] := by
  refine ⟨_, _, _, _, _, _, _, _, _, _, _, _, rfl⟩
section
variable {P : Program} {w : World} {A : Around} {E : Value → Shared → Prop}
/-- the bound ValueError.__init__ is called -/
theorem il_bound {h : Heap} {g : Array GenState} {d : Drawn} {t : Nat} {os : OsState} {nm q : Str} {C N : Addr} {bs bm : List Value} {hdct : Bool} {sn : List Str} {sub : List Value} {ab : Bool} {col : Option Bool} {dd : Option Addr} {k0 k1 k2 k3 k5 : Option Value} {u e t0 : Addr} {rest : List Value} {Q : Value → Shared → Prop}
    (hC : h.get? C = some (excClassObj nm q C N bs bm hdct sn sub ab col dd k0 k1 k2 k3 k5 "ValueError.__new__")) (he : h.get? e = some (exN C t0)) (hu : h.get? u = some (PySem.W.kxs_mw "ValueError.__init__" e))
    (hq : ∀ h' t1, (∀ b o, b ≠ e → h.get? b = some o → h'.get? b = some o) → h'.get? e = some (exN C t1) → Q .none ⟨h', g, d, t, os⟩) (hz : rest.length ≤ sizeLine) :
    wpAny (model P w) A (call (.ref u) rest) Q E ⟨h, g, d, t, os⟩ := by
  refine wpAny_call (codeAny_of_tree ?_)
  show wpAny (model P w) A.in1 (callAny (.ref u) ⟨rest, []⟩) _ _ ⟨h, g, d, t, os⟩
  simp only [callAny]
  refine wpAny_bind (wpAny_load hu ?_)
  simp only [PySem.W.kxs_mw, show (Value.type "method-wrapper" == Value.type "method" || Value.type "method-wrapper" == Value.type "builtin_function_or_method" || Value.type "method-wrapper" == Value.type "method-wrapper") = true by decide, if_true]
  refine PySem.W.KFB.if_so (by decide) ?_
  refine wpAny_bind (PySem.W.check_bound_init PySem.F.excCall_ValueError hC he rfl ?_)
  refine wpAny_bind (wpAny_pure (wpAny_pure ?_))
  refine ⟨Code.quiet_builtin _ (by decide +kernel), codeAny_builtin PySem.F.excBase_ValueError.initEntry ?_⟩
  rw [Around.under_plainId PySem.F.excBase_ValueError.init.plain _]
  have hrest := hz
  wp_walk
  refine hq _ h.objs.size (fun b1 o1 hb1 ho1 => ?_) ?_
  · rw [Heap.get?_update_other _ _ (Ne.symm hb1)] <;> exact Heap.get?_push_of_some _ ho1
  · rw [Heap.get?_update_self _ (Heap.get?_push_of_some _ he) rfl] <;> rfl

theorem il_run {K : PySem.W.Frag} {mg : Str → Option Value} {base : Heap} {outer : List Env} {s : Shared} {H : Hp} {C fI x t0 : Addr} {u : Value} {args : Args} {R : Result → Shared → Prop} (F : IlC P K mg C fI) (e0 : Env0 P w K mg base A outer s H) (hroom : A.depth < recursionLimit) (hx : s.heap.get? x = some (exN C t0)) (hHx : ∃ o, H x = some o)
    (bnd : ∀ oc od fd osl, K.lookup fI = some ⟨oc, od, .func fd, osl⟩ → BindsTo s fd args [("self", .ref x), ("lamp", u)])
    (hq : ∀ (h' : Heap) (dx t1 : Addr) (tk : Nat), (∀ b o, b ≠ x → s.heap.get? b = some o → h'.get? b = some o) → s.heap.objs.size ≤ dx → dx ≠ x → h'.get? x = some (exD C t1 dx) → h'.Ns1 dx (fun y => if y = "lamp" then some u else none) → R (.ok (.ret .none)) ⟨h', s.gens, s.drawn, tk, s.os⟩) :
    codeAny (model P w) A (.call (.ref fI) args) R s := by
  obtain ⟨oc, od, kV, doc, pm, an, cda, ct, cc, osl, ccl, cdd, vs, ccs, file, tf, cl, cld, csl, lk, hcd, lcd, hvs, hfile, lcc⟩ := F.fn
  have KX : K.In s.heap := e0.mod.kin.keeps fun b o e => (e0.bs b o e).1
  have lim : s.heap.NoLimit := e0.mod.nolimit.keeps fun b o e => (e0.bs b o e).1
  obtain ⟨nm, q, N, bs, bm, sn, sub, ab, col, dd, k0, k1, k2, k3, k5, hC, hbm⟩ := F.oex.cls
  have hcl : PySem.W.clsIn K C = some { name := nm, bases := bs, mro := .ref C :: bm, ns := N, qualname := q, hasDict := true, slotNames := sn, subclasses := sub, abstract := ab, collection := col, hasDel := false } := by
    unfold PySem.W.clsIn
    rw [hC] <;> rfl
  obtain ⟨mb, hb1, hb2⟩ := e0.mod.blt
  have xL : s.heap.objs.size ≠ x := Ne.symm (Nat.ne_of_lt (Heap.lt_size hx))
  refine ks_codeAny_call_defAt (fd := PySem.W.ksFn "__init__" "InvalidLamp.__init__" (defArgs ilDef) ilBody ilScope .none kV doc pm an (.ref cda) ct cc) (body := ilBody) (binds := [("self", .ref x), ("lamp", u)]) hroom (KX _ _ lk) rfl lim (PySem.W.codeRec_of KX hcd) rfl (bnd _ _ _ _ lk) ?_ ?_ (fun h₀ hns hk => ?_) rfl rfl rfl
  · show ∀ z ∈ ilScope.names, z.2 ≠ .cell
    decide +kernel
  · intro z hz
    rcases List.mem_cons.mp hz with rfl | hz
    · show ilScope.names.lookup ("self" : Str) = some .local
      decide +kernel
    · rw [List.mem_singleton.mp hz]
      show ilScope.names.lookup ("lamp" : Str) = some .local
      decide +kernel
  · have K0 : K.In h₀ := KX.keeps hk
    have hx0 := hk _ _ hx
    refine ks_wpAt_execs_cons (ks_wpAt_Expr_any (ks_wpAt_MethodCall ?_))
    refine ks_wpAt_super_base (f := fI) (cc := cda) rfl rfl (by decide) rfl (hk _ _ (KX _ _ lk)) rfl rfl rfl (hk _ _ (KX _ _ lcd)) rfl hvs hfile F.top ?_
    refine PySem.W.ks_loadName_global rfl rfl (Calls.loadGlobal_builtin (e0.mod.glob.keeps fun b o e => hk _ _ (e0.bs b o e).1) F.msuper (hb1.keeps fun b o e => hk _ _ (e0.bs b o e).1) ((hb2 _ (by decide)).trans (by decide +kernel : bootBuiltins "super" = some (.type "super"))) ⟨rfl, ?_⟩)
    refine wpAny_loadName_free rfl rfl rfl ⟨_, hk _ _ (KX _ _ lcc), rfl⟩ ?_
    refine wpAny_loadName_local rfl rfl hns rfl ?_
    refine ks_wpAny_isType_cls (K0 _ _ hC) rfl ⟨rfl, ?_⟩
    refine ks_wpAny_call_super (K0 _ _ hC) rfl hx0 rfl (fun c e => nomatch e) (PySem.W.looks_mroIn K0 F.self) (fun h1 hso ka => ?_)
    have K1 : K.In h1 := K0.keeps ka
    have hx1 := ka _ _ hx0
    have I1 : PySem.W.InstAt h1 x (exN C t0) C none := ⟨hx1, rfl, rfl, trivial⟩
    have hmro : PySem.W.Looks (model P w) h1 (mroOf (.ref C)) (.ref C :: bm) := (PySem.W.looks_clsIn K1 hcl).andThen .now
    have halong : PySem.W.alongIn K "__init__" (((.ref C :: bm).dropWhile (· != Value.ref C)).drop 1) = some (some (.builtin "ValueError.__init__")) := by
      have := F.along
      unfold PySem.W.ks_superIn at this
      rw [hcl] at this
      exact this
    refine PySem.W.kxs_getMethod PySem.W.kxs_ValueError hso (PySem.W.looks_opaque K1 F.third) hmro rfl K1 halong (I1.type.andThen (PySem.W.looks_subIn K1 F.subV)) (PySem.W.ks_ne K1 I1 hcl) (by decide) ?_
    have kb : ∀ b o, h1.get? b = some o → (h1.push (PySem.W.kxs_mw "ValueError.__init__" x)).get? b = some o := fun b o e => Heap.get?_push_of_some _ e
    have hu : (h1.push (PySem.W.kxs_mw "ValueError.__init__" x)).get? h1.objs.size = some (PySem.W.kxs_mw "ValueError.__init__" x) := Heap.get?_push_at rfl rfl
    have K2 : K.In (h1.push (PySem.W.kxs_mw "ValueError.__init__" x)) := K1.keeps kb
    refine PySem.W.kxs_callWith (i := "ValueError.__init__") (x := x) rfl (Calls.evalArgs_plain (PyProof.Rows.spliced_more (Calls.Constant_str (PyProof.Rows.spliced_none ⟨hu, ?_⟩))))
    refine il_bound (K2 _ _ hC) (kb _ _ hx1) hu (fun h2 t1 kc2 hx2 => ?_) (by show 1 ≤ _; decide)
    have k02 : ∀ b o, b ≠ x → h₀.get? b = some o → h2.get? b = some o := fun b o n e => kc2 b o n (kb _ _ (ka _ _ e))
    have hns2 : h2.Ns s.heap.objs.size fun y => (List.reverse [(("self" : Str), Value.ref x), ("lamp", u)]).lookup y := by
      obtain ⟨oL, es, ep, hL, r⟩ := hns
      exact ⟨oL, es, ep, k02 _ _ xL hL, r⟩
    have K2' : K.In h2 := fun b o e => by
      refine k02 b o (fun hb => ?_) (K0 b o e)
      have e1 := (e0.bs b o (e0.mod.kin b o e)).2
      obtain ⟨o', ho'⟩ := hHx
      rw [hb, ho'] at e1
      cases e1
    refine ks_wpAt_execs_cons (ks_wpAt_Assign_Attr ?_)
    refine wpAt_of_wpAny (wpAny_Name (wpAny_loadName_local rfl rfl hns2 rfl ?_) (by decide))
    refine wpAny_Name (wpAny_loadName_local rfl rfl hns2 rfl ?_) (by decide)
    refine PySem.W.set_plain K2' (ox := exN C t1) (od := none) ⟨hx2, rfl, rfl, trivial⟩ F.oex.sa ?_
    refine PySem.HandSPX.exc_osa K2' hx2 hcl (show PySem.HandSPX.refsVE (.ref C :: bm) = true from hbm) rfl F.noL (fun h3 tk dx k3 dn dne hx3 hn3 => ?_)
    refine wpAt_of_wpAny (wpAny_pure ?_)
    refine hq h3 dx t1 tk (fun b o n e => k3 b o n (k02 b o n (hk b o e))) ?_ dne hx3 hn3
    obtain ⟨oL, _, _, hL, _⟩ := hns2
    exact Nat.le_of_lt (Nat.lt_of_lt_of_le (Heap.lt_size hL) dn)
/-- the promise of the __init__ -/
def sp_il (C : Addr) : Sp := fun vs H Q _ => ∃ (a : Addr) (y : V), vs = [.ref a, y] ∧ H a = some (exo a C none) ∧ ∀ dx, H dx = Option.none → dx ≠ a → Q .non (upd (upd H dx (exd dx [("lamp", y)])) a (exo a C (some dx)))
theorem il_ok {K : PySem.W.Frag} {mg : Str → Option Value} {base : Heap} {C fI : Addr} (F : IlC P K mg C fI) : ∃ fd, FnOk P w K mg base CX0 1 fI fd ["self", "lamp"] (sp_il C) ∧ Binds K fd ["self", "lamp"] [] := by
  have F' := F
  obtain ⟨oc, od, kV, doc, pm, an, cda, ct, cc, osl, ccl, cdd, vs, ccs, file, tf, cl, cld, csl, lk, _⟩ := F'.fn
  refine ⟨PySem.W.ksFn "__init__" "InvalidLamp.__init__" (defArgs ilDef) ilBody ilScope .none kV doc pm an (.ref cda) ct cc, ⟨fun vs H Q E h => ?_, fun A outer s H args us vs Q E hr e0 hb r hsp => ?_⟩, Binds.all fun us hl => ?_⟩
  · obtain ⟨a, y, rfl, _⟩ := h
    rfl
  · obtain ⟨a, y, rfl, ha, hq⟩ := hsp
    cases r with
    | @cons _ u0 _ ur ra rr =>
      cases rr with
      | @cons _ u _ ur2 ry rr2 =>
        cases rr2
        obtain rfl : u0 = Value.ref a := ra
        obtain ⟨t1, ho⟩ := exo_at e0.hok ha
        refine il_run F e0 hr.depth ho ⟨_, ha⟩ (u := u) (fun oc' od' fd' osl' lk' => ?_) (fun h' dx t2 tk k dn dne hx hn => ?_)
        · rw [lk] at lk'
          cases lk'
          exact hb
        · have hnd : H dx = Option.none := e0.hok.fresh dn
          have nd : ∀ {b : Addr} {o : Obj}, s.heap.get? b = some o → b ≠ dx := fun {b o} q => Nat.ne_of_lt (Nat.lt_of_lt_of_le (Heap.lt_size q) dn)
          have na : ∀ {b : Addr}, H b = Option.none → b ≠ a := fun {b} n z => by
            rw [z, ha] at n
            cases n
          have U : Un (frs outer) [] H (upd (upd H dx (exd dx [("lamp", y)])) a (exo a C (some dx))) s.heap h' := {
            keep := fun b o q n _ _ => k b o (na n) q
            slot := fun b o q n _ _ => ⟨o.slots, k b o (na n) q⟩
            free := fun b o q n _ => by rw [upd_ne (na n), upd_ne (nd q)]; exact n
            there := fun b o q _ => by
              by_cases hb' : b = a
              · exact ⟨_, by rw [hb']; exact hx⟩
              · exact ⟨o, k b o hb' q⟩
            tups := fun b xs q => by rw [upd_ne (at_ne ha q exo_tup), upd_ne (ne_of_none q hnd)]; exact q
            frzs := fun b o v q => by rw [upd_ne (at_ne ha q exo_frz), upd_ne (ne_of_none q hnd)]; exact q
            tbls := fun b ps q => ⟨#[], by rw [upd_ne (at_ne ha q exo_tbl), upd_ne (ne_of_none q hnd), q]; simp⟩ }
          refine ⟨.non, _, rfl, e0.bare, U, fun b o q => ?_, rfl, hq dx hnd dne⟩
          by_cases hb' : b = a
          · subst hb'
            rw [upd_same] at q
            cases q
            exact exo_ok hx
          · rw [upd_ne hb'] at q
            by_cases hd : b = dx
            · subst hd
              rw [upd_same] at q
              cases q
              exact exd_ok hn (relO_put (fs := []) ry fun g => True.intro)
            · rw [upd_ne hd] at q
              exact (e0.hok b o q).stay (fun c v hc z => k c v (by
                  rcases hc with hc | hc
                  · rw [hc]
                    exact hb'
                  · exact at_ne ha hc exo_own) z)
                (fun c hc => by rw [upd_ne (at_ne ha hc exo_own), upd_ne (ne_of_none hc hnd)]; exact hc) (fun c xs hc => by rw [upd_ne (at_ne ha hc exo_tup), upd_ne (ne_of_none hc hnd)]; exact hc)
  · match us, hl with
    | [_, _], _ => rfl
end
theorem ps_imp {X : Cx} {st : Stmt} {t u : TS} (h : PS X st t) (q : ∀ D σ H, u D σ H → t D σ H) : PS X st u := ⟨fun pins s σ H D I g => h.run pins s σ H D I (q _ _ _ g)⟩
/-- what the raise of the error needs -/
structure IlX (P : Program) (K : PySem.W.Frag) (mg : Str → Option Value) : Prop where
  ex : ∃ C fI, IlC P K mg C fI ∧ IsIL K C
/-- raise InvalidLamp(x) -/
theorem ps_raiseIL {X : Cx} {k i : Nat} {E : XK} {e : Expr} {p pos pos' : Pos} (IL : IlX X.prog X.K X.mg) (hr : Room (k + 2) X.A) (hc : X.calm = true) (hg : Gl X "InvalidLamp") (tk : Takes X (fun cls d _ H => E cls d H)) (he : PE X e (tVar i)) (hs : starEach [e] X.env = (false, eval e X.env) :: starEach [] X.env := by rfl) :
    PS X (.Raise (some (.Call (.Name "InvalidLamp" p) [e] [] pos)) Option.none pos') (tRaiseIL X.K E (tVar i)) := by
  obtain ⟨C, fI, F, hC⟩ := IL.ex
  obtain ⟨fd, F1, hb⟩ := il_ok (w := X.w) (base := X.base) F
  refine ps_imp (ps_raise hc tk (pmk_oex F.oex F.iC F.tI F1 (hr.mono (by omega)) hb .nil pass0 hg F.mgC (pa_cons he pa_nil hs) (by decide) hs rfl)) fun D σ H h => ?_
  obtain ⟨x, hx, q⟩ := h
  refine ⟨x, hx, (by show 1 ≤ 1000; decide), fun a ha => ?_⟩
  refine ⟨a, x, rfl, upd_same, fun dx hdx hne => ⟨rfl, dx, [("lamp", x)], upd_same, by rw [upd_ne hne]; exact upd_same, ?_, ?_⟩⟩
  · rwa [upd_ne hne] at hdx
  · have hdx' : H dx = Option.none := by rwa [upd_ne hne] at hdx
    refine q C dx _ hC (fun b o hb' => ?_) upd_same
    have n1 : b ≠ dx := ne_of_none hb' hdx'
    have n2 : b ≠ a := ne_of_none hb' ha
    rw [upd_ne n1, del_ne n2, upd_ne n2, upd_ne n1, upd_ne n2]
    exact hb'
end Hue
end
section
set_option maxHeartbeats 4000000
namespace Hue
open PySem PySem.Spec PyProof.Rows L2
/-! ### House(..) -/
abbrev hDef : Stmt := inClass (top 20) 2
abbrev hPs : List Str := ["self", "count", "hues", "wires"]
/-- the written part's House -/
structure DefH (K : PySem.W.Frag) (mg : Str → Option Value) (cH : Addr) : Prop where
  ex : ∃ (f : Addr) (fd : FuncData) (T0 : Addr), FunD K "__init__" "House.__init__" (defArgs hDef) (defBody hDef) (defScope hDef) [.ref T0] [] f fd ∧ (∀ H, SqT K H T0 []) ∧ Mk K cH f
  mg_ : mg "House" = some (.ref cH)
  cls : HCls K cH
  most : HMost K cH
structure CalH (P : Program) (w : World) (K : PySem.W.Frag) (mg : Str → Option Value) (base : Heap) (cH : Addr) (k : Nat) : Prop where
  ex : ∃ (f : Addr) (fd : FuncData) (T0 : Addr) (ds : List Value), FnOk P w K mg base CX0 k f fd hPs (sp_hinit K cH) ∧ Binds K fd hPs [] ∧ Vals [V.ref T0] ds ∧ Binds K fd hPs ds ∧ (∀ H, SqT K H T0 []) ∧ Mk K cH f
  mg_ : mg "House" = some (.ref cH)
  cls : HCls K cH
  most : HMost K cH
section
variable {P : Program} {w : World} {K : PySem.W.Frag} {mg : Str → Option Value} {base : Heap} {k : Nat} {cH : Addr} {N : List Str}
theorem cal_mkH (t : TS) (D : DefH K mg cH) (S : FnScope N hPs (defScope hDef))
    (hd : ∀ (f : Addr) (cdv : Value) (A : Around) (outer : List Env) (s : Shared) (H : Hp) (E : XK), Room k (A.deeper (envOfC "House.__init__" (defScope hDef) s.heap.objs.size f cdv)) →
      PSs (cxOf CX0 P w K mg base N "House.__init__" (defScope hDef) f cdv A outer s H E).nox (defBody hDef) t)
    (hp : ∀ vs H Q E, sp_hinit K cH vs H Q E → vs.length = 4 ∧ t { nx := fun _ H' => Q .non H', rt := Q } (start N vs) H) : CalH P w K mg base cH (k + 1) := by
  obtain ⟨f, fd, T0, F, hT, M⟩ := D.ex
  have ok : FnOk P w K mg base CX0 (k + 1) f fd hPs (sp_hinit K cH) := F.ok S (fun vs H Q E h => (hp vs H Q E h).1) (fun cdv A outer s H vs Q E hr h => ⟨t, (hd f cdv A outer s H E hr).nox, (hp vs H Q E h).2⟩)
  obtain ⟨ds4, v4, b4⟩ := F.binds1 (ps := hPs) 4 1 (by simp) rfl (fun T kV doc pm an cdv ct us its h1 h2 => by
    match us, its, h1, h2 with
    | [_, _, _, _], [_], _, _ => exact ⟨_, rfl, rfl⟩)
  obtain ⟨ds3, v3, b3⟩ := F.binds1 (ps := hPs) 3 0 (by simp) rfl (fun T kV doc pm an cdv ct us its h1 h2 => by
    match us, its, h1, h2 with
    | [_, _, _], [_], _, _ => exact ⟨_, rfl, rfl⟩)
  have e4 : ds4 = [] := by
    have e : Vals [] ds4 := v4
    cases e
    rfl
  subst e4
  exact ⟨⟨f, fd, T0, ds3, ok, b4, v3, b3, hT, M⟩, D.mg_, D.cls, D.most⟩
end
theorem pe_imp {X : Cx} {e : Expr} {t u : TE} (h : PE X e t) (q : ∀ σ H Q, u σ H Q → t σ H Q) : PE X e u := ⟨fun pins s σ H Q I g => h.run pins s σ H Q I (q _ _ _ g)⟩
section
variable {X : Cx} {k : Nat} {cH : Addr} {p pos : Pos} {e : Expr} {es : List Expr}
theorem mk_same {H : Hp} {x dx C : Addr} (hx : H x = Option.none) (hd : H dx = Option.none) : Same H (upd (upd H dx (.own x)) x (.ins C dx [])) := sm_mut (sm_new hd) hx
/-- t's use is monotone -/
def MonA (t : TA) : Prop := ∀ σ H (Q Q' : List V → Hp → Prop), (∀ vs H1, Q vs H1 → Q' vs H1) → t σ H Q → t σ H Q'
theorem pe_mkH3 {t : TA} (C : CalH X.prog X.w X.K X.mg X.base cH k) (hr : Room (k + 1) X.A) (hg : Gl X "House") (ha : PA X (e :: es) t) (hm : MonA t) (he : starEach (e :: es) X.env = (false, eval e X.env) :: starEach es X.env := by rfl) (hpl : (backTo pos (starEach es X.env)).any (·.1) = false := by rfl) :
    PE X (.Call (.Name "House" p) (e :: es) [] pos) (tMkH3 X.K t) := by
  obtain ⟨f, fd, T0, ds, F, b4, v3, b3, hT, M⟩ := C.ex
  refine pe_imp (pe_make (E := E0) M F hr hg C.mg_ b4 .nil pass0 ha (by decide) he hpl) fun σ H Q h => ?_
  refine hm _ _ _ _ (fun vs H1 h1 => ?_) h
  obtain ⟨n, h, a, as, line, ws, rfl, hok, q⟩ := h1
  intro x dx hx hdx hne
  exact ⟨H1, cH, x, dx, a, n, h, as, line, ws, rfl, C.cls, C.most, mk_same hx hdx, hx, hdx, hne, upd_same, by rw [upd_ne hne]; exact upd_same, hok, fun H' s hh => ⟨rfl, q x H' s hh⟩⟩
theorem pe_mkH2 {t : TA} (C : CalH X.prog X.w X.K X.mg X.base cH k) (hr : Room (k + 1) X.A) (hg : Gl X "House") (ha : PA X (e :: es) t) (hm : MonA t) (he : starEach (e :: es) X.env = (false, eval e X.env) :: starEach es X.env := by rfl) (hpl : (backTo pos (starEach es X.env)).any (·.1) = false := by rfl) :
    PE X (.Call (.Name "House" p) (e :: es) [] pos) (tMkH2 X.K t) := by
  obtain ⟨f, fd, T0, ds, F, b4, v3, b3, hT, M⟩ := C.ex
  refine pe_imp (pe_make (E := E0) M F hr hg C.mg_ b3 v3 pass0 ha (by decide) he hpl) fun σ H Q h => ?_
  refine hm _ _ _ _ (fun vs H1 h1 => ?_) h
  obtain ⟨n, h, rfl, n1, n16, h2, h10, q⟩ := h1
  intro x dx hx hdx hne
  exact ⟨H1, cH, x, dx, T0, n, h, [], List.range n, [], rfl, C.cls, C.most, mk_same hx hdx, hx, hdx, hne, upd_same, by rw [upd_ne hne]; exact upd_same, ⟨.inr (hT _), ⟨rfl, fun i p w h1 h2 => by simp at h1⟩, .refl _, ⟨List.nodup_nil, fun u w hh => by simp at hh⟩, by simp, n1, n16, h2, h10⟩, fun H' s hh => ⟨rfl, q x H' s hh⟩⟩
theorem mon_nil : MonA tNil := fun _ _ _ _ h q => h _ _ q
theorem mon_var {i : Nat} {t : TA} (h : MonA t) : MonA (tCons (tVar i) t) := fun σ H Q Q' hq ⟨v, e, q⟩ => ⟨v, e, h _ _ _ _ (fun vs H1 x => hq _ _ x) q⟩
theorem mon_list {K : PySem.W.Frag} {i : Nat} {t : TA} (h : MonA t) : MonA (tCons (tCB (rListOf K) (tCons (tVar i) tNil)) t) := fun σ H Q Q' hq ⟨v, e, p, ys, e1, e2, q⟩ => ⟨v, e, p, ys, e1, e2, fun l hl => h _ _ _ _ (fun vs H1 x => hq _ _ x) (q l hl)⟩
theorem mon_tup {K : PySem.W.Frag} {i : Nat} {t : TA} (h : MonA t) : MonA (tCons (tCB (rTupOf K) (tCons (tVar i) tNil)) t) := fun σ H Q Q' hq ⟨v, e, p, ys, e1, q⟩ => ⟨v, e, p, ys, e1, q.elim (fun ⟨a, b⟩ => .inl ⟨a, fun l hl => h _ _ _ _ (fun vs H1 x => hq _ _ x) (b l hl)⟩) fun ⟨a, b⟩ => .inr ⟨a, h _ _ _ _ (fun vs H1 x => hq _ _ x) b⟩⟩
end
end Hue
end
section
set_option maxHeartbeats 4000000
namespace Hue
open PySem PySem.Spec PyProof.Rows L2
section
variable {P0 : Program} {w0 : World} {A0 : Around} {E1 : Value → Shared → Prop} {s0 : Shared}
/-- a tuple's items in a new list -/
theorem srt_collect {l : Addr} {us : List Value} {Q0 : List Value → Shared → Prop} (hl : s0.heap.IsTuple l us.toArray)
    (h : Q0 us { s0 with heap := (s0.heap.push (seqObj "list" #[] 0)).update s0.heap.objs.size (Obj.mapSeq (· ++ us.toArray)) }) (hu : us.length ≤ sizeLine) :
    wpAny (model P0 w0) A0 (collect (.ref l)) Q0 E1 s0 := by
  obtain ⟨ob, ho, hc, n0, hd⟩ := id hl
  unfold collect
  refine wpAny_bind (wpAny_runValue (codeAny_builtin entry_proto_collect' ?_))
  show wpAny (model P0 w0) _ (do again (.builtin "list.__iadd__" ⟨[← newList [], .ref l], []⟩)) _ _ s0
  refine wpAny_bind (wpAny_newList (wpAny_pure ⟨Code.quiet_builtin _ (by decide +kernel), codeAny_builtin entry_list_iadd' ?_⟩))
  show wpAny (model P0 w0) _ (Builtin.List.listExtendWith (.ref s0.heap.objs.size) (.ref l) (.ref s0.heap.objs.size)) _ _ { s0 with heap := s0.heap.push (seqObj "list" #[] 0) }
  unfold Builtin.List.listExtendWith
  have hq : (s0.heap.push (seqObj "list" #[] 0)).get? l = some ob := Heap.get?_push_of_some _ ho
  refine wpAny_bind (wpAny_typeOf (T := "tuple") ⟨ob, hq, hc⟩ ?_)
  rw [if_pos (by rw [show (Value.type "tuple" == Value.type "tuple") = true by rfl, Bool.or_true])]
  refine wpAny_bind (listItems_at hq hd ?_)
  refine wpAny_bind (listItems_at (xs := #[]) (n := 0) (Heap.get?_push_size _ rfl) rfl ?_)
  rw [if_neg (by simp)]
  refine wpAny_bind (listUpdate_at (xs := #[]) (n := 0) (Heap.get?_push_size _ rfl) rfl ?_ (Nat.zero_le _) (by show (#[] ++ us.toArray).size ≤ sizeLine + 1; simp only [Array.size_append, List.size_toArray, List.length_nil]; omega))
  refine wpAny_pure ?_
  show wpAny (model P0 w0) A0 (do
      let ov ← load s0.heap.objs.size
      match ov.data with
      | .seq xs _ => pure xs.toList
      | _ => unsupported "internal:collect") Q0 E1 { s0 with heap := (s0.heap.push (seqObj "list" #[] 0)).update s0.heap.objs.size (Obj.mapSeq (· ++ us.toArray)) }
  refine wpAny_bind (wpAny_load (get?_update_seq (Heap.get?_push_size _ rfl) _) ?_)
  show wpAny (model P0 w0) _ (pure ((#[] : Array Value) ++ us.toArray).toList) Q0 E1 _
  rw [show ((#[] : Array Value) ++ us.toArray).toList = us by simp]
  exact wpAny_pure h
open SrtO in
theorem srt_tup {l : Addr} {us : List Value} {k : Value → Int × Int} {Q0 : Value → Shared → Prop} (hl : s0.heap.IsTuple l us.toArray) (hz : us.length ≤ sizeLine) (hp : ∀ v ∈ us, Srt.IsPair s0.heap v (k v).1 (k v).2)
    (h : ∀ (h' : Heap) (d : Addr) (out : List Value), Srtd (fun v u => lexB (k v) (k u)) out → Stb (fun v u => lexB (k v) (k u)) out us → (∀ b o, s0.heap.get? b = some o → h'.get? b = some o) → s0.heap.objs.size ≤ d → (∃ n, h'.get? d = some (seqObj "list" out.toArray n)) → Q0 (.ref d) { s0 with heap := h' }) :
    wpAny (model P0 w0) A0 (call (.builtin "sorted") [.ref l]) Q0 E1 s0 := by
  refine Calls.call_function_entry kind_sorted plain_sorted entry_sorted (args_sorted1 _) ?_
  unfold Builtin.«sorted»
  refine wpAny_bind (m := checkCount "sorted" 1 1 _) (wpAny_pure ?_)
  refine wpAny_bind (srt_collect hl ?_ hz)
  refine wpAny_bind (wpAny_newList ?_ hz)
  have hsz : ((s0.heap.push (seqObj "list" #[] 0)).update s0.heap.objs.size (Obj.mapSeq (· ++ us.toArray))).objs.size = s0.heap.objs.size + 1 := by rw [Heap.size_update, size_push']
  have hoL : (((s0.heap.push (seqObj "list" #[] 0)).update s0.heap.objs.size (Obj.mapSeq (· ++ us.toArray))).push (seqObj "list" us.toArray 0)).get? (s0.heap.objs.size + 1) = some (seqObj "list" us.toArray 0) := by
    rw [← hsz] <;> exact Heap.get?_push_size _ rfl
  have keep : ∀ b o, s0.heap.get? b = some o → b ≠ s0.heap.objs.size + 1 ∧ (((s0.heap.push (seqObj "list" #[] 0)).update s0.heap.objs.size (Obj.mapSeq (· ++ us.toArray))).push (seqObj "list" us.toArray 0)).get? b = some o := fun b o q => by
    have hlt : b < s0.heap.objs.size := Heap.lt_size q
    exact ⟨Nat.ne_of_lt (Nat.lt_succ_of_lt hlt), Heap.get?_push_of_some _ ((Heap.get?_update_ne _ _ _ _ (Nat.ne_of_lt hlt)).trans (Heap.get?_push_of_some _ q))⟩
  show wpAny _ _ _ _ _ { s0 with heap := ((s0.heap.push (seqObj "list" #[] 0)).update s0.heap.objs.size (Obj.mapSeq (· ++ us.toArray))).push (seqObj "list" us.toArray 0) }
  rw [hsz]
  have hS : 2 ≤ us.length → SortableO P0 w0 A0.in1.in1 { s0 with heap := ((s0.heap.push (seqObj "list" #[] 0)).update s0.heap.objs.size (Obj.mapSeq (· ++ us.toArray))).push (seqObj "list" us.toArray 0) } (s0.heap.objs.size + 1) us (fun v u => lexB (k v) (k u)) := fun h2 => by
    refine pairs_sortableO (by omega) (fun v hm => (hp v hm).keeps fun b o e _ => (keep b o e).2) fun o e => ?_
    have e' : some o = some (seqObj "list" us.toArray 0) := e.symm.trans hoL
    cases e'
    intro c
    exact absurd (Value.type.inj c) (by decide)
  refine wpAny_bind (wpAny_holding (wpAny_call_entry slot_list_sort ⟨_, hoL, rfl⟩ entry_list_sort (list_sort_ord (swo_lex k) hoL hz hS fun out hs hb => ⟨_, rfl, ?_⟩) (args_list_sort _)))
  exact wpAny_pure ⟨_, rfl, h _ _ out hs hb (fun b o e => sortedAll_old e) (Nat.le_succ _) (sortedAll_at s0.heap us out.toArray)⟩
end
/-- the numbers of a wire, by its address -/
theorem wire_k {H : Hp} {as : List Addr} {ws : List (Nat × Nat)} (h : WRows H as ws) : ∃ k : V → Int × Int, ∀ x ∈ as.map V.ref, ∃ t, x = V.ref t ∧ H t = some (.tup [.int (k x).1, .int (k x).2]) := by
  refine ⟨fun x => match x with
    | .ref t => match H t with
      | some (.tup [.int i, .int j]) => (i, j)
      | _ => (0, 0)
    | _ => (0, 0), fun x hx => ?_⟩
  obtain ⟨t, ht, rfl⟩ := List.mem_map.mp hx
  obtain ⟨i, hi⟩ := List.mem_iff_getElem?.mp ht
  have hlt : i < ws.length := by
    rw [← h.1]
    exact (List.getElem?_eq_some_iff.mp hi).1
  obtain ⟨w, hw⟩ : ∃ w, ws[i]? = some w := ⟨ws[i], List.getElem?_eq_getElem hlt⟩
  have e := h.2 i t w hi hw
  refine ⟨t, rfl, ?_⟩
  show H t = some (.tup [.int (match H t with | some (.tup [.int i, .int j]) => (i, j) | _ => (0, 0)).1, .int (match H t with | some (.tup [.int i, .int j]) => (i, j) | _ => (0, 0)).2])
  rw [e]
  rfl
theorem c_srt {X : Cx} : CallR X (.builtin "sorted") (rSrt X.K) := by
  intro pins s σ H vs us Q I r h
  obtain ⟨a, as, ws, rfl, hs, hw, hl2, q⟩ := h
  obtain ⟨k, hx⟩ := wire_k hw
  have perm : ∀ {ys : List V}, ys.Perm (as.map V.ref) → ∃ bs : List Addr, ys = bs.map V.ref ∧ bs.Perm as := fun {ys} hp => by
    have hm : ∀ y ∈ ys, ∃ t, y = V.ref t := fun y hy => by
      obtain ⟨t, _, e⟩ := List.mem_map.mp (hp.mem_iff.mp hy)
      exact ⟨t, e.symm⟩
    obtain ⟨bs, e⟩ : ∃ bs : List Addr, ys = bs.map V.ref := by
      clear hp
      induction ys with
      | nil => exact ⟨[], rfl⟩
      | cons y ys ih =>
        obtain ⟨t, rfl⟩ := hm y List.mem_cons_self
        obtain ⟨bs, rfl⟩ := ih fun z hz => hm z (List.mem_cons_of_mem _ hz)
        exact ⟨t :: bs, rfl⟩
    subst e
    refine ⟨bs, rfl, ?_⟩
    have inj : Function.Injective V.ref := fun a b e => by cases e; rfl
    have := hp.map (fun v : V => match v with | .ref t => t | _ => 0)
    simpa [List.map_map, Function.comp_def] using this
  rcases hs with hs | hs
  · refine cr_sortedPO pins s σ H _ us Q I r ⟨a, as.map V.ref, k, rfl, hs, hx, fun ys p _ hb hp => ?_⟩
    obtain ⟨bs, rfl, hbs⟩ := perm hb.perm
    exact q p bs hp hbs
  · obtain ⟨its, rv, hl, hz⟩ := I.tuple hs
    obtain ⟨u, rfl, ru⟩ := vals1 r
    obtain rfl : u = Value.ref a := ru
    obtain ⟨e1, e2⟩ := refs_back rv fun x m => by
      obtain ⟨t, e, _⟩ := hx x m
      exact ⟨t, e⟩
    refine srt_tup (k := fun u => k (backV u)) hl (by rw [← rv.length]; exact hz) (fun v hv => ?_) fun h' d out h1 h2 kp hd hn => ?_
    · obtain ⟨t, rfl⟩ := e2 v hv
      have hm : V.ref t ∈ as.map V.ref := by rw [e1]; exact List.mem_map.mpr ⟨_, hv, rfl⟩
      obtain ⟨t', e, ht⟩ := hx _ hm
      cases e
      obtain ⟨_, its2, r2, o, ho, hc, n, hd⟩ := I.hok _ _ ht
      obtain ⟨u1, u2, rfl, ri, rj⟩ := vals2 r2
      obtain ⟨t1, rfl⟩ := ri
      obtain ⟨t2, rfl⟩ := rj
      exact ⟨t, o, t1, t2, n, rfl, ho, hc, hd⟩
    · have h3 : ∀ u ∈ out, ∃ a, u = Value.ref a := fun u hu => e2 u (h2.perm.mem_iff.mp hu)
      obtain ⟨n, hn⟩ := hn
      have hb : (out.map backV).Perm (as.map V.ref) := by
        rw [e1]
        exact h2.perm.map backV
      obtain ⟨bs, ebs, hbs⟩ := perm hb
      have hlen : (out.map backV).length ≤ sizeLine := by
        rw [hb.length_eq]
        exact hz
      refine ⟨.ref d, upd H d (.lst (out.map backV)), I.laid (t' := s.toks) kp hd ⟨hlen, out, n, vals_back h3, hn⟩, rfl, ?_⟩
      rw [ebs]
      exact q d bs (I.hok.fresh hd) hbs
end Hue
end
section
set_option maxHeartbeats 4000000
namespace Hue
open PySem PySem.Spec PyProof.Rows L2
theorem kL_V0 {l : List Nat} : (kL l).map kV = vNs l := by
  unfold kL vNs
  rw [List.map_map]
  rfl
/-- {tuple: v} -/
theorem pe_disp1 {X : Cx} {pos : Pos} {k v : Expr} {tk tv : TE} (hu : X.A.units + 1 < cLine) (hk : PE X k tk) (hv : PE X v tv) : PE X (.Dict [some k] [v] pos) (tDisp1 tk tv) := by
  refine ⟨fun pins s σ H Q I q => ?_⟩
  have hn := I.hok.fresh (Nat.le_refl s.heap.objs.size)
  have I1 := I.laid (a := s.heap.objs.size) (o := .dT []) (h' := s.heap.push { cls := .type "dict", data := .dict #[] }) (t' := s.toks) (fun _ _ q => Heap.get?_push_of_some _ q) (Nat.le_refl _) (dt_empty s.heap I.big)
  rw [arm_eval_Dict]
  have hshape : (evalEachOpt [some k] X.env).zip ((evalEach [v] X.env).map fun v => do let x ← v; standAt pos; pure x) = (pairTrees [some k] [v] X.env pos).map fun p => (some p.1, p.2) := rfl
  rw [hshape, dictDisplay_pairs _ (by simp [pairTrees]) (by show 1 < 17; decide)]
  have run := (pps_cons (pos := pos) hk hv pps_nil).run pins _ σ _ (fun ps H2 => match ps with
    | [(x, y)] => ∃ (b : Addr) (l : List Nat), x = .ref b ∧ H2 b = some (.tup (vNs l)) ∧ H2 s.heap.objs.size = some (.dT []) ∧ Q (.ref s.heap.objs.size) (upd H2 s.heap.objs.size (.dT [(kL l, y)]))
    | _ => False) I1 (q _ hn)
  refine wpAny_bind (wpAny_standAt (wpAny_bind (wpAny_subDictH (knd := tupleKind (mixKind X.prog X.w)) (Q := fun d s' => wpAny (model X.prog X.w) X.A (pure (Value.ref d)) (EP X pins σ Q) X.xe s') (show X.A.units < cLine by omega) (by show 1 ≤ 15; decide) (thn run fun ws s2 ⟨ps, H2, I2, rel, e⟩ => ?_))))
  match ps, e with
  | [(x, y)], ⟨b, l, ex, eb, ep, q2⟩ =>
    subst ex
    cases rel with
    | @cons p r ps' ws' h t =>
      cases t
      obtain ⟨u1, u2⟩ := r
      obtain ⟨h1, h2⟩ := h
      obtain rfl : u1 = Value.ref b := h1
      obtain ⟨z, hd, xs, r0, dd⟩ := dt_of I2.hok ep
      cases r0
      have eb' : H2 b = some (.tup ((kL l).map kV)) := by rw [kL_V0]; exact eb
      refine ⟨[(kL l, b, u2)], ⟨rfl, rfl, key_of I2.hok eb', trivial⟩, dd, fun h' tk' dd' hs => wpAny_pure ⟨.ref s.heap.objs.size, _, ?_, rfl, q2⟩⟩
      obtain ⟨o, es, ep2, hq, g2, g3, g4, _, g5⟩ := dd'
      refine d_write I2 (by rw [ep]; exact True.intro) hs ⟨o, hq⟩ ⟨(by show 1 ≤ _; decide), hd, [(kL l, b, u2)], .cons ⟨rfl, ?_, h2⟩ .nil, o, es, ep2, hq, g2, g3, g4, g5⟩
      rw [upd_ne (L2.ne_of eb' ep (fun z => nomatch z))]
      exact eb'
end Hue
end
section
set_option maxHeartbeats 4000000
namespace Hue
open PySem PySem.Spec PyProof.Rows L2
theorem llt_irr : ∀ l : List Nat, llt l l = false
  | [] => rfl
  | x :: xs => by
    unfold llt
    rw [if_pos rfl]
    exact llt_irr xs
/-- c not below a, b below a: c not below b -/
theorem llt_neg : ∀ {a b c : List Nat}, llt b a = true → llt c a = false → llt c b = false
  | [], [], _, h, _ => by cases h
  | [], _ :: _, _, h, _ => by cases h
  | _ :: _, [], [], _, k => by cases k
  | _ :: _, [], _ :: _, _, _ => rfl
  | _ :: _, _ :: _, [], _, k => by cases k
  | x :: xs, y :: ys, z :: zs, h, k => by
    unfold llt at h k ⊢
    by_cases e1 : z = y
    · rw [if_pos e1]
      subst e1
      by_cases e2 : z = x
      · rw [if_pos e2] at h k
        exact llt_neg h k
      · rw [if_neg e2] at h k
        rw [h] at k
        cases k
    · rw [if_neg e1]
      by_cases e2 : y = x
      · subst e2
        rw [if_neg e1] at k
        exact k
      · rw [if_neg e2] at h
        have h1 := of_decide_eq_true h
        refine decide_eq_false fun h2 => ?_
        have e3 : ¬ z = x := by omega
        rw [if_neg e3] at k
        exact of_decide_eq_false k (by omega)
theorem best_llt (rows : List (List Nat)) : ∀ k : Nat, argBest (fun i j => llt (rows.getD i []) (rows.getD j [])) k ≤ k ∧ ∀ j, j ≤ k → llt (rows.getD j []) (rows.getD (argBest (fun i j => llt (rows.getD i []) (rows.getD j [])) k) []) = false
  | 0 => ⟨Nat.le_refl _, fun j hj => by
      obtain rfl : j = 0 := by omega
      exact llt_irr _⟩
  | k + 1 => by
    obtain ⟨i1, i2⟩ := best_llt rows k
    by_cases hb : llt (rows.getD (k + 1) []) (rows.getD (argBest (fun i j => llt (rows.getD i []) (rows.getD j [])) k) []) = true
    · have ea : argBest (fun i j => llt (rows.getD i []) (rows.getD j [])) (k + 1) = k + 1 := if_pos hb
      rw [ea]
      refine ⟨Nat.le_refl _, fun j hj => ?_⟩
      rcases Nat.lt_or_ge k j with h | h
      · obtain rfl : j = k + 1 := by omega
        exact llt_irr _
      · exact llt_neg hb (i2 j h)
    · have ea : argBest (fun i j => llt (rows.getD i []) (rows.getD j [])) (k + 1) = argBest (fun i j => llt (rows.getD i []) (rows.getD j [])) k := if_neg hb
      rw [ea]
      refine ⟨Nat.le_succ_of_le i1, fun j hj => ?_⟩
      rcases Nat.lt_or_ge k j with h | h
      · obtain rfl : j = k + 1 := by omega
        simpa using hb
      · exact i2 j h
/-- a row as data -/
def dL (l : List Nat) : PyData := .list (l.map fun x : Nat => .int (x : Int))
theorem dpA_intsL {K : PySem.W.Frag} {H : Hp} : ∀ l : List Nat, DpAll K H (vNs l) (l.map fun x : Nat => .int (x : Int))
  | [] => .nil
  | x :: xs => .cons (.int x) (dpA_intsL xs)
theorem dp_L {K : PySem.W.Frag} {H : Hp} {a : Addr} {l : List Nat} (h : H a = some (.lst (vNs l))) : Dp K H (.ref a) (dL l) := .lst (SqL.of h) (dpA_intsL l)
theorem dp_rowsL {K : PySem.W.Frag} {H : Hp} : ∀ {as : List Addr} {rows : List (List Nat)}, Rows H as rows → DpAll K H (as.map V.ref) (rows.map dL)
  | [], [], _ => .nil
  | [], _ :: _, h => nomatch h.1
  | _ :: _, [], h => nomatch h.1
  | a :: as, r :: rows, h => .cons (dp_L (h.2 0 a r rfl rfl)) (dp_rowsL ⟨Nat.succ.inj h.1, fun i p s e1 e2 => h.2 (i + 1) p s e1 e2⟩)
theorem listLt_llt : ∀ l m : List Nat, PySem.W.listLt (l.map fun x : Nat => (x : Int)) (m.map fun x : Nat => (x : Int)) = llt l m
  | [], [] => rfl
  | [], _ :: _ => rfl
  | _ :: _, [] => rfl
  | x :: xs, y :: ys => by
    rw [List.map_cons, List.map_cons, PySem.W.listLt, llt]
    by_cases e : x = y
    · rw [if_pos e, if_pos (by omega)]
      exact listLt_llt xs ys
    · rw [if_neg e, if_neg (by omega)]
      show decide ((x : Int) < (y : Int)) = decide (x < y)
      exact decide_eq_decide.mpr (by omega)
theorem dL_toD (l : List Nat) : dL l = PySem.W.Datum.toD (l.map fun x : Nat => (x : Int)) := by
  show PyData.list _ = PyData.list _
  rw [List.map_map]
  rfl
theorem dL_lt (l m : List Nat) : PySem.W.dataLt (dL l) (dL m) = llt l m := by
  rw [dL_toD, dL_toD, PySem.W.DatumOrd.lt_eq]
  exact listLt_llt l m
theorem dLs_alike (rows : List (List Nat)) : PySem.W.AlikeAll (rows.map dL) := by
  have e : rows.map dL = (rows.map fun r => r.map fun x : Nat => (x : Int)).map PySem.W.Datum.toD := by
    rw [List.map_map]
    exact List.map_congr_left fun r _ => dL_toD r
  rw [e]
  exact PySem.W.alikeAll_datum _
theorem depth_ints : ∀ l : List Nat, PyData.depthAll (l.map fun x : Nat => PyData.int (x : Int)) = 0
  | [] => rfl
  | x :: xs => by
    show max 0 (PyData.depthAll (xs.map fun x : Nat => PyData.int (x : Int))) = 0
    rw [depth_ints xs]
    rfl
theorem depth_rows : ∀ rows : List (List Nat), PyData.depthAll (rows.map dL) ≤ 1
  | [] => Nat.zero_le _
  | r :: rows => by
    show max (PyData.depthAll (r.map fun x : Nat => PyData.int (x : Int)) + 1) (PyData.depthAll (rows.map dL)) ≤ 1
    rw [depth_ints r]
    exact Nat.max_le.mpr ⟨Nat.le_refl _, depth_rows rows⟩
theorem getD_dL (rows : List (List Nat)) {i : Nat} (h : i < rows.length) : (rows.map dL).getD i .none = dL (rows.getD i []) := by
  rw [List.getD_eq_getElem?_getD, List.getD_eq_getElem?_getD, List.getElem?_map, List.getElem?_eq_getElem h]
  rfl
theorem c_minL {X : Cx} {k : Nat} (hc : X.calm = true) (hr : Room k X.A) : CallR X (.builtin "min") (rMinL X.K) := by
  intro pins s σ H vs us Q I r h
  obtain ⟨p, as, rows, rfl, hs, hR, hne, hlen, hle, q⟩ := h
  obtain ⟨its, rv, hl, _⟩ := I.list hs
  rw [Vals.ref1 r]
  obtain ⟨bs, ra⟩ := Dp.readsAll I _ _ _ (dp_rowsL (K := X.K) hR) rv
  have hu := hu65 hr
  have hd := depth_rows rows
  have hn : its.length = rows.length := by
    rw [← rv.length, List.length_map]
    exact hR.1
  have h0 : 0 < rows.length := List.length_pos_iff.mpr hne
  refine PySem.call_min_walkH (PySem.W.iter_listW (A := X.A.in1) (I.ok.hd hc) hl.isList fun s₂ e W st hfp hw hk => ?_)
  refine ⟨_, _, _, _, _, _, _, s.heap, fun i j => llt (rows.getD i []) (rows.getD j []), rfl, W, st, hfp, ?_, hw, hk, ?_, fun v s' hP m => ?_⟩
  · show 0 < its.toArray.size
    rw [List.size_toArray, hn]
    exact h0
  · intro i j vi vj s' Q' E' hk' hi hj hq
    have cm := PySem.W.cmpIn_lt (prog := X.prog) (w := X.w) (s := s) (A := X.A.in1) (vs := its.toArray) (xs := rows.map dL) (as := bs) ra (dLs_alike rows) (by show X.A.units + 1 + _ < _; omega)
    have li : i < rows.length := by
      rw [← hn]
      exact (List.getElem?_eq_some_iff.mp (by rw [← List.getElem?_toArray]; exact hi)).1
    have lj : j < rows.length := by
      rw [← hn]
      exact (List.getElem?_eq_some_iff.mp (by rw [← List.getElem?_toArray]; exact hj)).1
    refine cm i j vi vj s' Q' E' hk' hi hj ?_
    show Q' (.bool (PySem.W.dataLt ((rows.map dL).getD i .none) ((rows.map dL).getD j .none))) s'
    rw [getD_dL rows li, getD_dL rows lj, dL_lt]
    exact hq
  · obtain ⟨h', tk, rfl, hk'⟩ := PySem.W.moved_old e rfl m
    obtain ⟨b1, b2⟩ := best_llt rows (its.toArray.size - 1)
    rw [List.size_toArray, hn] at b1 b2
    have hi : its[argBest (fun i j => llt (rows.getD i []) (rows.getD j [])) (rows.length - 1)]? = some v := by
      rw [← List.getElem?_toArray]
      rw [List.size_toArray, hn] at hP
      exact hP
    have hlt : argBest (fun i j => llt (rows.getD i []) (rows.getD j [])) (rows.length - 1) < rows.length := by omega
    obtain ⟨g, hg⟩ : ∃ g, as[argBest (fun i j => llt (rows.getD i []) (rows.getD j [])) (rows.length - 1)]? = some g := ⟨_, List.getElem?_eq_getElem (by rw [hR.1]; exact hlt)⟩
    have hv := rv.get (i := argBest (fun i j => llt (rows.getD i []) (rows.getD j [])) (rows.length - 1)) (by rw [List.getElem?_map, hg]; rfl)
    obtain ⟨v', e1, e2⟩ := hv
    obtain rfl : v' = v := by rw [e1] at hi; exact Option.some.inj hi
    refine ⟨.ref g, H, I.kept hk', e2, q _ g _ hg (List.getElem?_eq_getElem hlt) fun x hx => ?_⟩
    obtain ⟨j, hj, rfl⟩ := List.mem_iff_getElem.mp hx
    have := b2 j (by omega)
    rw [List.getD_eq_getElem?_getD, List.getD_eq_getElem?_getD, List.getElem?_eq_getElem hj, List.getElem?_eq_getElem hlt] at this
    exact this
end Hue
end
section
set_option maxHeartbeats 4000000
namespace Hue
open PySem PySem.Spec PyProof.Rows L2
/-! ### repr; calls where no repr is under way -/
theorem c_repr {X : Cx} (hg : X.A.guards = some []) (hu : X.A.units + 65 < cLine) : CallR X (.builtin "repr") (rRepr X.K) := by
  intro pins s σ H vs us Q I r h
  obtain ⟨x, n, rfl, hx, q⟩ := h
  obtain ⟨u, rfl, ru⟩ := vals1 r
  cases hx with
  | int i h1 h2 =>
    obtain ⟨t, rfl⟩ := ru
    refine PySem.P.repr_of_int ?_ ⟨.str (toString i), H, I.tok _, ⟨_, rfl⟩, q⟩
    have : i.natAbs < 2 ^ 8 := by omega
    by_cases h0 : i.natAbs = 0
    · rw [h0]; decide
    · exact Nat.lt_trans ((Nat.log2_lt h0).mpr this) (by decide)
  | bl b =>
    obtain rfl : u = Value.bool b := ru
    cases b with
    | true => exact PySem.P.repr_of_bool ⟨.str "True", H, I.tok _, ⟨_, rfl⟩, q⟩
    | false => exact PySem.P.repr_of_bool ⟨.str "False", H, I.tok _, ⟨_, rfl⟩, q⟩
  | non =>
    obtain rfl : u = Value.none := ru
    exact PySem.P.repr_of_none ⟨.str "None", H, I.tok _, ⟨_, rfl⟩, q⟩
  | str =>
    obtain ⟨t, rfl⟩ := ru
    exact PySem.P.repr_of_str ⟨.str (reprText "0"), H, I.tok _, ⟨_, rfl⟩, q⟩ (by decide +kernel)
  | @tup a ha =>
    obtain rfl : u = Value.ref a := ru
    obtain ⟨as, rd⟩ := Dp.reads I (.tuple [.int 0]) (.ref a) (.ref a) (.tup (SqT.of ha) (.cons (.int 0) .nil)) rfl
    refine PySem.repr_of_reads' rd (by decide +kernel) (fun e => absurd e (by decide +kernel)) hg (by show X.A.units + (1 + 1) < cLine; omega) (fun _ _ e => e) (fun h' u tk hk => ⟨.str _, H, I.kept hk, ⟨_, rfl⟩, q⟩) (by decide +kernel)
/-- a def that runs where no repr is under way -/
structure FnG (P : Program) (w : World) (K : PySem.W.Frag) (mg : Str → Option Value) (base : Heap) (CX : CXT) (k : Nat) (f : Addr) (fd : FuncData) (ps : List Str) (sp : Sp) : Prop where
  len : ∀ vs H Q E, sp vs H Q E → vs.length = ps.length
  run : ∀ (B : Around) (out : List Env) (s : Shared) (H : Hp) (args : Args) (us : List Value) (vs : List V) (Q : VK) (E : XK), Room k B → B.guards = some [] → Env0 P w K mg base B out s H → BindsTo s fd args (ps.zip us) → Vals vs us → sp vs H Q E →
    codeAny (model P w) B (.call (.ref f) args) (CR CX out P w H s Q E) s
structure CalG (P : Program) (w : World) (K : PySem.W.Frag) (mg : Str → Option Value) (base : Heap) (CX : CXT) (k : Nat) (x : Str) (ps : List Str) (sp : Sp) : Prop where
  ex : ∃ (f : Addr) (fd : FuncData), FnG P w K mg base CX k f fd ps sp ∧ mg x = some (.ref f) ∧ PySem.W.keepIn K (.ref f) = true ∧ Binds K fd ps []
section
variable {X : Cx} {CX : CXT} {k : Nat} {f : Addr} {fd : FuncData} {ps : List Str} {sp : Sp} {E : XK} {x : Str} {p pos : Pos} {e : Expr} {es : List Expr} {t : TA}
theorem pe_clG (C : CalG X.prog X.w X.K X.mg X.base CX k x ps sp) (hr : Room k X.A) (hu : X.A.guards = some []) (hg : Gl X x) (hx : Passes CX X E) (ha : PA X (e :: es) t)
    (hdb : (x == ("__debug__" : Str)) = false := by decide) (he : starEach (e :: es) X.env = (false, eval e X.env) :: starEach es X.env := by rfl) (hpl : (backTo pos (starEach es X.env)).any (·.1) = false := by rfl) :
    PE X (.Call (.Name x p) (e :: es) [] pos) (tCl sp E t) := by
  refine ⟨fun pins s σ H Q I h => ?_⟩
  obtain ⟨f, fd, F, hm, hk, hb⟩ := C.ex
  refine wpAny_Call_Name_kw (ld_glob I hg hm ?_ hdb)
  refine PySem.W.callWith_K (h₀ := X.base) I.ok.mod.kin hk (thn (ha.run pos pins s σ H _ I h) fun us s2 ⟨vs, H2, I2, r, q⟩ => ⟨I2.kIn, ?_⟩) he hpl
  have hl : (us ++ []).length = ps.length := by rw [List.append_nil, ← r.length]; exact F.len _ _ _ _ q
  have hb2 := hb s2 us I2.kIn hl
  rw [List.append_nil] at hb2
  refine wpAny_call (codeAny_mono (F.run X.A X.stack s2 H2 ⟨us, []⟩ us vs Q E hr hu I2.env0 hb2 r q) fun z s3 hz => ?_)
  cases z with
  | error v => exact hx pins σ H2 s2 v s3 I2 hz
  | ok fl =>
    cases fl with
    | ret u => exact I2.after hz
    | next => exact False.elim hz
    | brk => exact False.elim hz
    | cont => exact False.elim hz
end
theorem fnG_of {CX : CXT} {P : Program} {w : World} {K : PySem.W.Frag} {mg : Str → Option Value} {base : Heap} {k : Nat} {f : Addr} {nm ql : Str} {prs : Arguments} {bd : List Stmt} {sc : Scope} {dV kV doc pm cdv ct oc : Value} {an od : Option Addr}
    {osl : Array (Option Value)} {N ps : List Str} {sp : Sp} (lk : K.lookup f = some ⟨oc, od, .func (PySem.W.fnOf nm ql prs bd sc dV kV doc pm an cdv ct), osl⟩) (hcd : PySem.W.codeIn K cdv ql = true) (S : FnScope N ps sc)
    (len : ∀ vs H Q E, sp vs H Q E → vs.length = ps.length)
    (hbody : ∀ (A : Around) (out : List Env) (s : Shared) (H : Hp) (vs : List V) (Q : VK) (E : XK), Room k (A.deeper (envOfC ql sc s.heap.objs.size f cdv)) → A.guards = some [] → sp vs H Q E →
      ∃ t, PSs (cxOf CX P w K mg base N ql sc f cdv A out s H E) bd t ∧ t { nx := fun _ H' => Q .non H', rt := Q } (start N vs) H) :
    FnG P w K mg base CX (k + 1) f (PySem.W.fnOf nm ql prs bd sc dV kV doc pm an cdv ct) ps sp := by
  refine ⟨len, fun B out s H args us vs Q E hr hgd e1 hb r hs => ?_⟩
  have hln := len _ _ _ _ hs
  have KIn : K.In s.heap := e1.mod.kin.keeps fun b o e => (e1.bs b o e).1
  have nolim : s.heap.NoLimit := e1.mod.nolimit.keeps fun b o e => (e1.bs b o e).1
  have hkd : ∀ y ∈ ps.zip us, sc.names.lookup y.1 = some .local ∨ (sc.names.lookup y.1 = some .cell ∧ ((cellsFrom (s.heap.objs.size + 1) sc.names []).lookup y.1).isSome = true) := fun ⟨n, v⟩ hy => by
    rcases S.par n (List.of_mem_zip hy).1 with g | g
    · exact .inl g
    · exact .inr ⟨g, PySem.W.cellsFrom_some _ _ _ (.inl g)⟩
  refine codeAny_call_function hr.depth (KIn _ _ lk) rfl S.co S.gen rfl (PySem.W.codeRec_of KIn hcd) (hb _ _ _ _ ?_)
  refine wpAny_newFunctionEnv_cells S.kind hkd fun env hv s2 x => ?_
  subst hv
  refine ⟨nolim.keeps x.toInCall.keep, codeAny_func ?_⟩
  obtain ⟨t, ht, hq⟩ := hbody B out s H vs Q E (hr.deeper _) hgd hs
  have J0 : Inv (cxOf CX P w K mg base N ql sc f cdv B out s H E) [] (start N vs) H s2 := inv_start S hr.hd e1 hln r x
  refine wpAny_mono (ht.run [] s2 (start N vs) H _ J0 hq) (fun fl s3 hf => ?_) fun z s3 hf => hf
  have last : ∀ {σ' : L2.St} {H' : Hp} {v : V} {u : Value}, Inv (cxOf CX P w K mg base N ql sc f cdv B out s H E) [] σ' H' s3 → RelV v u → Q v H' → CE out P w H s Q u s3 :=
    fun {_ H' v _} J rv g => ⟨v, H', J.os, J.bare, J.base, J.hok, rv, g⟩
  cases fl with
  | ret u =>
    obtain ⟨v, _, H', J, rv, g⟩ := hf
    exact last J rv g
  | next =>
    obtain ⟨_, H', J, g⟩ := hf
    exact last (v := V.non) (u := Value.none) J rfl g
  | brk =>
    obtain ⟨_, _, _, g⟩ := hf
    exact False.elim g
  | cont =>
    obtain ⟨_, _, _, g⟩ := hf
    exact False.elim g
section
variable {P : Program} {w : World} {K : PySem.W.Frag} {mg : Str → Option Value} {base : Heap} {i k : Nat} {x : Str} {N ps : List Str} {sp : Sp}
theorem cal_mkG (t : TS) (D : Def K mg i x) (S : FnScope N ps (defScope (top i))) (B : BindH x (top i) ps)
    (hd : ∀ (f : Addr) (cdv : Value) (A : Around) (outer : List Env) (s : Shared) (H : Hp) (E : XK), Room k (A.deeper (envOfC x (defScope (top i)) s.heap.objs.size f cdv)) → A.guards = some [] →
      PSs (cxOf CX0 P w K mg base N x (defScope (top i)) f cdv A outer s H E).nox (defBody (top i)) t)
    (hp : ∀ vs H Q E, sp vs H Q E → vs.length = ps.length ∧ t { nx := fun _ H' => Q .non H', rt := Q } (start N vs) H) : CalG P w K mg base CX0 (k + 1) x ps sp := by
  obtain ⟨f, fd, F, hf⟩ := D.ex
  have F' := F
  obtain ⟨oc, od, kV, doc, pm, an, cdv, ct, osl, rfl, lk, hcd⟩ := F'.ex
  refine ⟨f, _, fnG_of lk hcd S (fun vs H Q E h => (hp vs H Q E h).1) (fun A out s H vs Q E hr hg h => ?_), hf, F.kp, F.binds B⟩
  exact ⟨t, (hd f cdv A out s H E hr hg).nox, (hp vs H Q E h).2⟩
end
end Hue
end
section
set_option maxHeartbeats 4000000
namespace Hue
open PySem PySem.Spec PyProof.Rows L2
/-! ### try: the body's calls; except InvalidLamp as raised: isinstance, raised.lamp -/
theorem pe_clS {X : Cx} {CX : CXT} {k : Nat} {x : Str} {ps : List Str} {sp : Sp} {E : L2.St → XK} {t : TA} {p pos : Pos} {e : Expr} {es : List Expr} (C : Cal X.prog X.w X.K X.mg X.base CX k x ps sp) (hr : Room k X.A) (hg : Gl X x) (hx : ∀ σ, PassesAt CX X σ (E σ)) (ha : PA X (e :: es) t)
    (hdb : (x == ("__debug__" : Str)) = false := by decide) (he : starEach (e :: es) X.env = (false, eval e X.env) :: starEach es X.env := by rfl) (hpl : (backTo pos (starEach es X.env)).any (·.1) = false := by rfl) :
    PE X (.Call (.Name x p) (e :: es) [] pos) (tCallS sp E t) := by
  obtain ⟨f, fd, F, hm, hk, hb⟩ := C.ex
  exact pe_callS F hr hg hm hk hb hx ha hdb he hpl
/-- what the error's class says of its instances -/
structure FxC (K : PySem.W.Frag) (C cHE : Addr) : Prop where
  exm : PySem.W.exmOne K (.ref C) (.ref C) = some true
  kit : PySem.W.kitOne K (.ref C) (.ref cHE) = some true
  xf : XfC K C
  noL : PySem.W.findIn K (.ref C) "lamp" = some none
  cl : (PySem.W.clsIn K C).isSome = true
  ha : PySem.W.findIn K (.ref C) "__class__" = some (some (.builtin "object.__class__"))
  hn : PySem.W.specialIn K (.builtin "object.__class__") "__get__" = some (some (.builtin "getset_descriptor.__get__"))
  ht : PySem.W.takesIn K (.builtin "object.__class__") = some true
  hm : PySem.W.mroIn K C (.type "object") = some true
  isil : IsIL K C
structure FxX (P : Program) (K : PySem.W.Frag) (mg : Str → Option Value) (cHE : Addr) : Prop where
  ex : ∃ C, mg "InvalidLamp" = some (.ref C) ∧ FxC K C cHE
/-- isinstance(e, c): a the caught exception, cls its class, d its dict -/
def rIsX (K : PySem.W.Frag) (a : Addr) (cls : Value) (d : Option Addr) (C cHE : Addr) : List V → Hp → VK → Prop := fun xs H Q => xs = [.ref a, .ref cHE] ∧ cls = .ref C ∧ ∃ (dd : Addr) (fs : List (Str × V)), d = some dd ∧ H dd = some (.xd fs) ∧ Q (.bl true) H
theorem call_isX {X : Cx} {a C cHE : Addr} {oe : Obj} {cls : Value} {d : Option Addr} {pn : List (Addr × Obj)} (F : FxC X.K C cHE) (hz : Zc cls d oe) (hf : ∃ vs, oe.data = .fields vs) : CallR (X.suite a ((a, oe) :: pn)) (.builtin "isinstance") (rIsX X.K a cls d C cHE) := by
  intro pins s σ H xs us Q I r h
  obtain ⟨rfl, rfl, dd, fs, rfl, hd, q⟩ := h
  obtain ⟨u1, u2, rfl, ra, rb⟩ := vals2 r
  obtain rfl : u1 = Value.ref a := ra
  obtain rfl : u2 = Value.ref cHE := rb
  obtain ⟨hget, _⟩ := I.pin (a, oe) (List.mem_append.mpr (.inl List.mem_cons_self))
  obtain ⟨vs, hv⟩ := hf
  have hx : ObjOk X.prog X.w H s.heap dd (.xd fs) := I.hok dd _ hd
  obtain ⟨mA, hns, _⟩ := hx
  obtain ⟨od, ho, _⟩ := lookIn_ns hns
  have J : PySem.W.InstAt s.heap a oe C (some od) := ⟨hget, hz.1, by unfold PySem.W.notCls; rw [hv] <;> rfl, by rw [hz.2]; exact ho⟩
  exact PySem.W.kia_one (PySem.W.kitx_exc F.cl F.xf.ga F.xf.gg F.xf.exC F.ha F.hn F.ht F.hm) I.kIn J F.kit (fun z => nomatch z) fun tk => ⟨.bl true, H, I.kept (t' := tk) fun _ _ z => z, rfl, q⟩
/-! ### the reading -/
abbrev N__law_fault : List Str := ["_law_house_here", "_law_first", "_law_second_here", "_law_way", "raised"]
def tsF (K : PySem.W.Frag) (C cHE : Addr) (a : Addr) (cls : Value) (d : Option Addr) : TS :=
  tRet (tTup (tCons (tIf (tB (tCB (rIsX K a cls d C cHE) (tCons (tVar 4) (tCons (tC (.ref cHE)) tNil)))) (tC (.int 1)) (tC (.int 2))) (tCons (tCB (rRepr K) (tCons (tXf a cls d C "lamp" (tVar 4)) tNil)) tNil)))
def tbF (K : PySem.W.Frag) (W : WX) : TS :=
  (tSeq (tIfS (tTest (tOp rEq (tVar 3) (tC (.int 0)))) (tDrop (tCallS (sp_is_swap K) (WE W) (tCons (tVar 0) (tCons (tVar 1) (tCons (tVar 2) tNil))))) tNext)
  (tSeq (tIfS (tTest (tOp rEq (tVar 3) (tC (.int 1)))) (tDrop (tCallS (sp_sorted_form K) (WE W) (tCons (tVar 0) (tCons (tVar 1) tNil)))) tNext)
  (tIfS (tTest (tOp rEq (tVar 3) (tC (.int 2)))) (tDrop (tCallS (sp_neighbours K) (WE W) (tCons (tVar 0) (tCons (tVar 1) tNil)))) tNext)))
def W0 : WX := fun _ _ _ _ => False
def t__law_fault (K : PySem.W.Frag) (C cHE : Addr) : TS :=
  tSeq (fun D σ H => tbF K (wAs K (.ref C) 4 (tsF K C cHE) W0 D) D σ H) (tRet (tTup (tCons (tC (.int 0)) (tCons (tC (.str "")) tNil))))
/-! ### the plain law of the reading -/
theorem rais_F {K : PySem.W.Frag} {C cHE : Addr} {D : Ends} {σ : L2.St} {H : Hp} {n : Nat} {x : V} (F : FxC K C cHE) (hl : σ.length = 5) (o : OddV H n x) (q : ∀ (p : Addr) (H' : Hp), Same H H' → H' p = some (.tup [.int 1, .str (reprV x)]) → D.rt (.ref p) H') :
    RaisesIL K H (WE (wAs K (.ref C) 4 (tsF K C cHE) W0 D) σ) x := by
  intro C' d H' hC hs hd
  have e : C' = C := by
    have := hC.symm.trans F.isil
    cases this
    rfl
  subst e
  refine ⟨true, F.exm, fun _ a ha => ?_, fun z => nomatch z⟩
  have e4 : (σ.set 4 (some (.ref a)))[4]? = some (some (.ref a)) := by
    rw [List.getElem?_set_self (by omega)]
  refine ⟨_, e4, ⟨rfl, rfl, d, _, rfl, hd, true, rfl, ?_⟩⟩
  dsimp only
  rw [if_pos rfl]
  refine ⟨_, e4, rfl, rfl, d, _, x, rfl, hd, rfl, x, n, rfl, o.mono hs, n_line (by show 2 ≤ _; decide), fun p hp => ?_⟩
  exact q p _ (hs.trans (sm_new hp)) upd_same
theorem p__law_fault {K : PySem.W.Frag} {C cHE : Addr} (F : FxC K C cHE) : ∀ vs H Q E, sp__law_fault K vs H Q E → vs.length = 4 ∧ t__law_fault K C cHE { nx := fun _ H' => Q .non H', rt := Q } (start N__law_fault vs) H := by
  rintro vs H Q E ⟨a, r1, r2, xs, ys, way, B, n, h, x, rfl, hh, h1, h2, p1, p2, l1, l2, w0, w2, fb, o, q⟩
  refine ⟨rfl, ?_⟩
  have R := fun {D : Ends} (k : D.rt = Q) => rais_F (D := D) (σ := start N__law_fault [.ref a, .ref r1, .ref r2, .int way]) F rfl o (fun p H' e1 e2 => by rw [k]; exact q p H' e1 e2)
  have cases3 : way = 0 ∨ way = 1 ∨ way = 2 := by omega
  rcases cases3 with rfl | rfl | rfl
  · refine ⟨_, rfl, rfl, true, rfl, ?_⟩
    refine ⟨_, rfl, _, rfl, _, rfl, a, r1, r2, xs, ys, B, n, h, rfl, hh, h1, h2, p1, p2, fun e1 e2 => ?_, fun z e1 => ?_, fun e1 z e2 => ?_⟩
    · rw [show firstBad n xs ys 0 = (badV n xs).or (badV n ys) from rfl, e1, e2] at fb
      cases fb
    · rw [show firstBad n xs ys 0 = (badV n xs).or (badV n ys) from rfl, e1] at fb
      cases fb
      exact R rfl
    · rw [show firstBad n xs ys 0 = (badV n xs).or (badV n ys) from rfl, e1, e2] at fb
      cases fb
      exact R rfl
  · refine ⟨_, rfl, rfl, false, rfl, ?_⟩
    refine ⟨_, rfl, rfl, true, rfl, ?_⟩
    refine ⟨_, rfl, _, rfl, a, r1, xs, B, n, h, rfl, hh, h1, p1, fun e1 => ?_, fun z e1 => ?_⟩
    · rw [show firstBad n xs ys 1 = badV n xs from rfl, e1] at fb
      cases fb
    · rw [show firstBad n xs ys 1 = badV n xs from rfl, e1] at fb
      cases fb
      exact R rfl
  · refine ⟨_, rfl, rfl, false, rfl, ?_⟩
    refine ⟨_, rfl, rfl, false, rfl, ?_⟩
    refine ⟨_, rfl, rfl, true, rfl, ?_⟩
    refine ⟨_, rfl, _, rfl, a, r1, xs, B, n, h, rfl, hh, h1, p1, fun e1 => ?_, fun z e1 => ?_⟩
    · rw [show firstBad n xs ys 2 = badV n xs from rfl, e1] at fb
      cases fb
    · rw [show firstBad n xs ys 2 = badV n xs from rfl, e1] at fb
      cases fb
      exact R rfl
end Hue
end
section
set_option maxHeartbeats 4000000
namespace Hue
open PySem PySem.Spec PyProof.Rows L2
/-! ### the law is called with no repr under way -/
/-- what is tracked ahead of the law: the script alone, where it is no object of the written part -/
def scr (K : PySem.W.Frag) (a : Addr) (o : Obj) (ns : List Int) : Hp := fun b => if b = a ∧ K.lookup a = Option.none then some (.frz o (.lst (ns.map V.int))) else Option.none
theorem scr_some {K : PySem.W.Frag} {a b : Addr} {o : Obj} {ns : List Int} {u : HO} (h : scr K a o ns b = some u) : b = a ∧ K.lookup a = Option.none ∧ u = .frz o (.lst (ns.map V.int)) := by
  unfold scr at h
  by_cases c : b = a ∧ K.lookup a = Option.none
  · rw [if_pos c] at h
    cases h
    exact ⟨c.1, c.2, rfl⟩
  · rw [if_neg c] at h
    cases h
theorem law_G {P : Program} {w : World} {K : PySem.W.Frag} {mg mb : Str → Option Value} {k : Nat} {fa a : Addr} {x : Str} {sp : Sp} {st : Shared} {vs : List Value} {ns : List Int}
    (kin : K.In st.heap) (gns : st.heap.Ns mainGlobals mg) (bns : st.heap.Ns builtinsNs mb) (bbt : ∀ x : Str, x ≠ "__name__" → mb x = bootBuiltins x) (nol : st.heap.NoLimit) (gen : st.gens = #[])
    (ga : st.heap.get? a = some { cls := .type "list", data := .seq vs.toArray }) (ia : IntsAre vs ns) (ln : ns.length ≤ sizeLine) (rm : Room k callerA)
    (F : ∀ base : Heap, K.In base → base.Ns mainGlobals mg → ∃ fd : FuncData, Binds K fd [x] [] ∧ FnG P w K mg base CX0 k fa fd [x] sp)
    (pr : ∀ H : Hp, SqL K H a (ns.map V.int) → sp [.ref a] H (fun v _ => v = .bl true) fun _ _ _ => False) :
    codeAny (model P w) callerA (.call (.ref fa) ⟨[.ref a], []⟩) (fun r u => r = .ok (.ret (.bool true)) ∧ OldK st.heap u.heap ∧ u.os = st.os ∧ AllBare u.gens) st := by
  have rel := vals_ints ia
  have len := ia.length
  obtain ⟨H, eH⟩ : ∃ H, H = scr K a { cls := .type "list", data := .seq vs.toArray } ns := ⟨_, rfl⟩
  have only : ∀ {b : Addr} {u : HO}, H b = some u → b = a ∧ K.lookup a = Option.none ∧ u = .frz { cls := .type "list", data := .seq vs.toArray } (.lst (ns.map V.int)) := fun h => scr_some (by rw [← eH]; exact h)
  have free : ∀ {b : Addr}, (b ≠ a ∨ ∃ o, K.lookup a = some o) → H b = Option.none := fun {b} h => by
    cases q : H b with
    | none => rfl
    | some u =>
      obtain ⟨e1, e2, _⟩ := only q
      rcases h with h | ⟨o, h⟩
      · exact absurd e1 h
      · rw [e2] at h
        cases h
  have nodict : ∀ {b : Addr} {o : Obj} {es : Array DictEntry} {n : Nat}, st.heap.get? b = some o → o.data = .dict es n → H b = Option.none := fun {b o es n} e d => free (.inl fun z => by
    subst z
    rw [ga] at e
    cases e
    have d' : Data.seq vs.toArray _ = Data.dict es n := d
    cases d')
  have nsB : ∀ {b : Addr} {m : Str → Option Value}, st.heap.Ns b m → (hidT st.heap H).Ns b m := fun {b m} ⟨o, es, n, e, d, g⟩ => ⟨o, es, n, hidT_get e (nodict e d), d, g⟩
  have kinB : K.In (hidT st.heap H) := fun b o e => hidT_get (kin b o e) (free (if z : b = a then .inr ⟨o, by rw [← z]; exact e⟩ else .inl z))
  have modB : Mod K mg (hidT st.heap H) := ⟨kinB, nsB gns, ⟨mb, nsB bns, bbt⟩, let ⟨mc, q1, q2⟩ := nol; ⟨mc, nsB q1, q2⟩⟩
  have okH : HOk P w H st.heap := fun b u e => by
    obtain ⟨rfl, _, rfl⟩ := only e
    exact ⟨ga, by rw [List.length_map]; exact ln, vs, _, rel, ga⟩
  have sq : SqL K H a (ns.map V.int) := by
    cases hk : K.lookup a with
    | some o =>
      have e := kin a o hk
      rw [ga] at e
      cases e
      exact .inr ⟨_, vs.toArray, _, hk, rfl, rfl, rfl, by rw [List.size_toArray, len]; exact ln, by simpa using rel⟩
    | none => exact .inl (.inr ⟨{ cls := .type "list", data := .seq vs.toArray }, by rw [eH]; exact if_pos ⟨rfl, hk⟩⟩)
  have env : Env0 P w K mg (hidT st.heap H) callerA [] st H := ⟨rfl, modB, fun b o e => of_hidT e, Nat.le_of_eq (hidT_size _ _), trivial, fun b hb => absurd (show b ∈ ([] : List Addr) from hb) (by simp), okH, .of_eq gen⟩
  obtain ⟨fd, bd, fn⟩ := F _ kinB (nsB gns)
  refine codeAny_mono (fn.run callerA [] st H ⟨[.ref a], []⟩ [.ref a] [.ref a] _ _ rm rfl env (bd st [.ref a] kin rfl) (.cons rfl .nil) (pr H sq)) fun r z hz => ?_
  cases r with
  | error e => exact False.elim hz
  | ok fl =>
    cases fl with
    | next => exact False.elim hz
    | brk => exact False.elim hz
    | cont => exact False.elim hz
    | ret u =>
      obtain ⟨v, H2, os, bare, un, ok2, rv, g⟩ := hz
      have g' : v = .bl true := g
      subst g'
      obtain rfl : u = Value.bool true := rv
      refine ⟨rfl, OldK.of_keep fun b o e => ?_, os, bare⟩
      cases q : H b with
      | none => exact un.keep b o e q (by intro y; exact absurd (show b ∈ ([] : List Addr) from y) (by simp)) (by simp)
      | some u =>
        obtain ⟨e1, _, e3⟩ := only q
        subst e1
        rw [e3] at q
        have z2 := un.frzs b _ _ q
        obtain ⟨f1, _⟩ := ok2 b _ z2
        rw [ga] at e
        cases e
        exact f1
theorem walk_G {l : PySem.W.OpenLaw} {n k : Nat} {q : Program} {loose : List Str} {XP : (Str → Option Value) → Heap → Prop} {YP : World → Heap → Prop} {d : DefRec} {K : Params → PySem.W.Frag} {x : Str}
    (hn : l.most = some n) (hn2 : n ≤ sizeLine) (df : d.params.defaults = []) (rm : Room k callerA) (hY : ∀ (w : World) (h : Heap), YP w h → (K w.params).In h)
    (F : ∀ (w : World) (mg : Str → Option Value) (fa : Addr) (h : Heap), (K w.params).In h → h.Ns mainGlobals mg → mg d.name = some (.ref fa) →
      ∃ sp : Sp, (∀ base : Heap, (K w.params).In base → base.Ns mainGlobals mg → ∃ fd : FuncData, Binds (K w.params) fd [x] [] ∧ FnG l.prog w (K w.params) mg base CX0 k fa fd [x] sp) ∧
        ∀ (H : Hp) (a : Addr) (ns : List Int), ns.length ≤ n → SqL (K w.params) H a (ns.map V.int) → sp [.ref a] H (fun v _ => v = .bl true) fun _ _ _ => False) :
    PySem.W.WalkO q loose XP YP l.row.toRowW d [] (fun f vs => PySem.call f vs) := by
  refine Att.attach_call hn df fun w s₀ s1 mg mb fa o pm cd doc a vs ns G Y ho hd hcd hmg hobj his hlen hg => ?_
  have kin := hY w _ Y
  obtain ⟨sp, hF, hs⟩ := F w mg fa _ kin G.T.g hmg
  exact law_G kin G.T.g G.T.b G.T.builtins G.T.nolimit hg hobj his (Nat.le_trans hlen hn2) rm hF fun H hS => hs H a ns hlen hS
/-! ### a def, as the written part has it -/
def DefW (K : PySem.W.Frag) (i : Nat) (x : Str) : Prop := ∃ (f : Addr) (oc : Value) (od : Option Addr) (kV doc pm : Value) (an : Option Addr) (cdv ct : Value) (osl : Array (Option Value)),
  PySem.W.nsIn K mainGlobals x = some (some (.ref f)) ∧ K.lookup f = some ⟨oc, od, .func (PySem.W.fnOf x x (defArgs (top i)) (defBody (top i)) (defScope (top i)) .none kV doc pm an cdv ct), osl⟩ ∧ PySem.W.codeIn K cdv x = true ∧ PySem.W.keepIn K (.ref f) = true
theorem defW {K : PySem.W.Frag} {i : Nat} {x : Str} {f : Addr} {oc : Value} {od : Option Addr} {kV doc pm : Value} {an : Option Addr} {cdv ct : Value} {osl : Array (Option Value)} (a : PySem.W.nsIn K mainGlobals x = some (some (.ref f)))
    (l : K.lookup f = some ⟨oc, od, .func (PySem.W.fnOf x x (defArgs (top i)) (defBody (top i)) (defScope (top i)) .none kV doc pm an cdv ct), osl⟩) (c : PySem.W.codeIn K cdv x = true) (k : PySem.W.keepIn K (.ref f) = true) : DefW K i x :=
  ⟨f, oc, od, kV, doc, pm, an, cdv, ct, osl, a, l, c, k⟩
theorem DefW.d {K : PySem.W.Frag} {i : Nat} {x : Str} {h : Heap} {mg : Str → Option Value} (D : DefW K i x) (X : K.In h) (G : h.Ns mainGlobals mg) : Def K mg i x := by
  obtain ⟨f, oc, od, kV, doc, pm, an, cdv, ct, osl, a, l, c, k⟩ := D
  exact ⟨f, _, fun_mk l c k, PySem.W.mg_of X G a⟩
end Hue
end
section
set_option maxHeartbeats 4000000
namespace Hue
open PySem PySem.Spec PyProof.Rows L2
theorem sc_sorted_form : FnScope N_sorted_form ["house", "run"] (defScope (top 42)) := ⟨rfl, rfl, rfl, by decide +kernel, rfl, by decide +kernel, by decide +kernel⟩
theorem ok_sorted_form {P : Program} {w : World} {K : PySem.W.Frag} {mg : Str → Option Value} {base : Heap} {cH cHE : Addr} (T : Txt K mg cH cHE) (D : Def K mg 42 "sorted_form") (c_comparable_lamps : Cal P w K mg base CX0 2 "comparable_lamps" ["house"] (sp_comparable_lamps K)) (c_need_run : Cal P w K mg base (L2.CX P w) 5 "need_run" ["house", "run"] (sp_need_run K)) (c_next_sorted : Cal P w K mg base CX0 1 "next_sorted" ["heads", "comparable", "end"] (sp_next_sorted K))
    (hp : ∀ vs H Q E, sp_sorted_form K vs H Q E → vs.length = 2 ∧ t_sorted_form K E { nx := fun _ H' => Q .non H', rt := Q } (start N_sorted_form vs) H) :
    Cal P w K mg base (L2.CX P w) 6 "sorted_form" ["house", "run"] (sp_sorted_form K) :=
  cal_mkX (t_sorted_form K) D sc_sorted_form (fun _ _ _ _ _ _ us hl => match us, hl with | [_, _], _ => rfl) (fun f cdv A outer s H E hr => (pss_cons (ps_expr (pe_cl c_need_run (hr.mono (by decide)) (by rfl) (passes_call (W := fun c d _ H => E c d H) (takes_of rfl rfl rfl rfl) (fun _ _ _ _ h => h)) (pa_cons (pv 0) (pa_cons (pv 1) pa_nil))))
    (PSs.nox (pss_cons (ps_set (i := 2) sc_sorted_form.nd rfl (Or.inl rfl) (pe_callB c_len (by rfl) T.m_len (by decide +kernel) (pa_cons (pv 1) pa_nil)))
    (pss_cons (ps_setLc (i := 3) (own := [("_", 10)]) rfl sc_sorted_form.nd rfl rfl (sw_true rfl rfl rfl (by decide +kernel)) (pi_range1 rfl T.m_range (pa_cons (pe_fld (pv 0) rfl) pa_nil)) (blkOk_by (own := [("_", 10)]) (N := N_sorted_form) (sc := (defScope (top 42))) (by decide +kernel)) (fun _ _ _ _ _ => (pg_name (i := 10) sc_sorted_form.nd rfl (Or.inl rfl))) (fun _ _ _ _ _ => pts_nil) (fun _ _ _ _ _ => (pe_lst pa_nil)))
    (pss_cons (ps_for PassesOwn.never rfl (pi_enum (by rfl) T.m_enumerate (pa_cons (pv 1) pa_nil)) (pg_tup rfl (pgs_cons (pg_name (i := 4) sc_sorted_form.nd rfl (Or.inl rfl)) (pgs_cons (pg_name (i := 5) sc_sorted_form.nd rfl (Or.inl rfl)) pgs_nil)))
    (pss_one (ps_expr (pe_bm PySem.F.plainAttrs_list PySem.F.slot_list_append PySem.F.type_list_append mt_append (pe_ix ix_list (pv 3) (pv 5) (fun _ _ => rfl)) (pa_cons (pv 4) pa_nil)))))
    (pss_cons (ps_for PassesOwn.never rfl (pi_range1 rfl T.m_range (pa_cons (pe_fld (pv 0) rfl) pa_nil)) (pg_name (i := 5) sc_sorted_form.nd rfl (Or.inl rfl))
    (pss_one (ps_expr (pe_bm PySem.F.plainAttrs_list PySem.F.slot_list_append PySem.F.type_list_append mt_append (pe_ix ix_list (pv 3) (pv 5) (fun _ _ => rfl)) (pa_cons (pv 2) pa_nil)))))
    (pss_cons (ps_setLc (i := 6) (own := [("_", 10)]) rfl sc_sorted_form.nd rfl rfl (sw_true rfl rfl rfl (by decide +kernel)) (pi_range1 rfl T.m_range (pa_cons (pe_fld (pv 0) rfl) pa_nil)) (blkOk_by (own := [("_", 10)]) (N := N_sorted_form) (sc := (defScope (top 42))) (by decide +kernel)) (fun _ _ _ _ _ => (pg_name (i := 10) sc_sorted_form.nd rfl (Or.inl rfl))) (fun _ _ _ _ _ => pts_nil) (fun _ _ _ _ _ => pe_int))
    (pss_cons (ps_setLc (i := 7) (own := [("row", 11)]) rfl sc_sorted_form.nd rfl rfl (sw_true rfl rfl rfl (by decide +kernel)) (pi_list (pv 3)) (blkOk_by (own := [("row", 11)]) (N := N_sorted_form) (sc := (defScope (top 42))) (by decide +kernel)) (fun _ _ _ _ _ => (pg_name (i := 11) sc_sorted_form.nd rfl (Or.inl rfl))) (fun _ _ _ _ _ => pts_nil) (fun _ _ _ _ _ => (pe_ix ix_list (pv 11) pe_int (fun _ _ => rfl))))
    (pss_cons (ps_set (i := 8) sc_sorted_form.nd rfl (Or.inl rfl) (pe_cl c_comparable_lamps (hr.mono (by decide)) (by rfl) pass0 (pa_cons (pv 0) pa_nil)))
    (pss_cons (ps_set (i := 9) sc_sorted_form.nd rfl (Or.inl rfl) (pe_lst pa_nil))
    (pss_cons (ps_while PassesOwn.never (pt_cmpR op_lt (pe_callB c_len (by rfl) T.m_len (by decide +kernel) (pa_cons (pv 9) pa_nil)) (pv 2) (nomark _)) (pss_cons (ps_set (i := 5) sc_sorted_form.nd rfl (Or.inl rfl) (pe_cl c_next_sorted (hr.mono (by decide)) (by rfl) pass0 (pa_cons (pv 7) (pa_cons (pv 8) (pa_cons (pv 2) pa_nil)))))
    (pss_cons (ps_expr (pe_bm PySem.F.plainAttrs_list PySem.F.slot_list_append PySem.F.type_list_append mt_append (pv 9) (pa_cons (pv 5) pa_nil)))
    (pss_cons (ps_augS (pv 6) (pv 5) get_list pe_int ip_add set_list)
    (pss_one (ps_asg (pe_ix ix_list (pe_ix ix_list (pv 3) (pv 5) (fun _ _ => rfl)) (pe_ix ix_list (pv 6) (pv 5) (fun _ _ => rfl)) (fun _ _ => rfl)) (pg_sub (pv 7) (pv 5) set_list)))))))
    (pss_one (ps_ret (pv 9))))))))))))))) hp
theorem sc__law_below : FnScope N__law_below ["_law_line_here", "_law_wires_here"] (defScope (top 50)) := ⟨rfl, rfl, rfl, by decide +kernel, rfl, by decide +kernel, by decide +kernel⟩
theorem ok__law_below {P : Program} {w : World} {K : PySem.W.Frag} {mg : Str → Option Value} {base : Heap} {cH cHE : Addr} (T : Txt K mg cH cHE) (D : Def K mg 50 "_law_below") 
    (hp : ∀ vs H Q E, sp__law_below K vs H Q E → vs.length = 2 ∧ t__law_below K { nx := fun _ H' => Q .non H', rt := Q } (start N__law_below vs) H) :
    Cal P w K mg base CX0 1 "_law_below" ["_law_line_here", "_law_wires_here"] (sp__law_below K) :=
  cal_mk (t__law_below K) D sc__law_below (fun _ _ _ _ _ _ us hl => match us, hl with | [_, _], _ => rfl) (fun f cdv A outer s H E hr => (pss_cons (ps_setLc (i := 3) (own := [("_law_lamp", 2)]) rfl sc__law_below.nd rfl rfl (sw_true rfl rfl rfl (by decide +kernel)) (pi_list (pv 0)) (blkOk_by (own := [("_law_lamp", 2)]) (N := N__law_below) (sc := (defScope (top 50))) (by decide +kernel)) (fun _ _ _ _ _ => (pg_name (i := 2) sc__law_below.nd rfl (Or.inl rfl))) (fun _ _ _ _ _ => pts_nil) (fun _ _ _ _ _ => (pe_lst pa_nil)))
    (pss_cons (ps_for PassesOwn.never rfl (pi_reversed (by rfl) T.m_reversed (pa_cons (pv 0) pa_nil)) (pg_name (i := 4) sc__law_below.nd rfl (Or.inl rfl))
    (pss_cons (ps_set (i := 5) sc__law_below.nd rfl (Or.inr rfl) (pe_lc (own := [("_law_lamp", 2)]) rfl sc__law_below.nd (pi_list (pv 0)) (blkOk_by (own := [("_law_lamp", 2)]) (N := N__law_below) (sc := (defScope (top 50))) (by decide +kernel)) (fun _ _ _ _ _ => (pg_name (i := 2) sc__law_below.nd rfl (Or.inl rfl))) (fun _ _ _ _ _ => pts_nil) (fun _ _ _ _ _ => pe_bl)))
    (pss_cons (ps_for PassesOwn.never rfl (pi_list (pv 1)) (pg_name (i := 6) sc__law_below.nd rfl (Or.inl rfl))
    (pss_one (ps_if (pt_cmpR op_eq (pe_ix ix_tup (pv 6) pe_int (fun _ _ => rfl)) (pv 4) (nomark _)) (pss_cons (ps_asg pe_bl (pg_sub (pv 5) (pe_ix ix_tup (pv 6) pe_int (fun _ _ => rfl)) set_list))
    (pss_one (ps_for PassesOwn.never rfl (pi_list (pe_ix ix_list (pv 3) (pe_ix ix_tup (pv 6) pe_int (fun _ _ => rfl)) (fun _ _ => rfl))) (pg_name (i := 2) sc__law_below.nd rfl (Or.inl rfl))
    (pss_one (ps_asg pe_bl (pg_sub (pv 5) (pv 2) set_list)))))) pss_nil)))
    (pss_one (ps_asg (pe_lc (own := [("_law_lamp", 2)]) rfl sc__law_below.nd (pi_range1 rfl T.m_range (pa_cons (pe_callB c_len (by rfl) T.m_len (by decide +kernel) (pa_cons (pv 0) pa_nil)) pa_nil)) (blkOk_by (own := [("_law_lamp", 2)]) (N := N__law_below) (sc := (defScope (top 50))) (by decide +kernel)) (fun _ _ _ _ _ => (pg_name (i := 2) sc__law_below.nd rfl (Or.inl rfl))) (fun _ _ _ _ _ => (pts_one (pt_val (pe_ix ix_list (pv 5) (pv 2) (fun _ _ => rfl))))) (fun _ _ _ _ _ => (pv 2))) (pg_sub (pv 3) (pv 4) set_list))))))
    (pss_one (ps_ret (pv 3)))))) hp
theorem sc_neighbours : FnScope N_neighbours ["house", "run"] (defScope (top 43)) := ⟨rfl, rfl, rfl, by decide +kernel, rfl, by decide +kernel, by decide +kernel⟩
theorem ok_neighbours {P : Program} {w : World} {K : PySem.W.Frag} {mg : Str → Option Value} {base : Heap} {cH cHE : Addr} (T : Txt K mg cH cHE) (D : Def K mg 43 "neighbours") (c_comparable_lamps : Cal P w K mg base CX0 2 "comparable_lamps" ["house"] (sp_comparable_lamps K)) (c_need_run : Cal P w K mg base (L2.CX P w) 5 "need_run" ["house", "run"] (sp_need_run K))
    (hp : ∀ vs H Q E, sp_neighbours K vs H Q E → vs.length = 2 ∧ t_neighbours K E { nx := fun _ H' => Q .non H', rt := Q } (start N_neighbours vs) H) :
    Cal P w K mg base (L2.CX P w) 6 "neighbours" ["house", "run"] (sp_neighbours K) :=
  cal_mkX (t_neighbours K) D sc_neighbours (fun _ _ _ _ _ _ us hl => match us, hl with | [_, _], _ => rfl) (fun f cdv A outer s H E hr => (pss_cons (ps_expr (pe_cl c_need_run (hr.mono (by decide)) (by rfl) (passes_call (W := fun c d _ H => E c d H) (takes_of rfl rfl rfl rfl) (fun _ _ _ _ h => h)) (pa_cons (pv 0) (pa_cons (pv 1) pa_nil))))
    (PSs.nox (pss_cons (ps_set (i := 2) sc_neighbours.nd rfl (Or.inl rfl) (pe_cl c_comparable_lamps (hr.mono (by decide)) (by rfl) pass0 (pa_cons (pv 0) pa_nil)))
    (pss_cons (ps_set (i := 3) sc_neighbours.nd rfl (Or.inl rfl) (pe_lst pa_nil))
    (pss_cons (ps_for PassesOwn.never rfl (pi_range1 rfl T.m_range (pa_cons (pe_op op_sub (pe_callB c_len (by rfl) T.m_len (by decide +kernel) (pa_cons (pv 1) pa_nil)) pe_int) pa_nil)) (pg_name (i := 4) sc_neighbours.nd rfl (Or.inl rfl))
    (pss_cons (ps_set (i := 5) sc_neighbours.nd rfl (Or.inl rfl) (pe_ix ix_list (pv 1) (pv 4) (fun _ _ => rfl)))
    (pss_cons (ps_set (i := 6) sc_neighbours.nd rfl (Or.inl rfl) (pe_ix ix_list (pv 1) (pe_op op_add (pv 4) pe_int) (fun _ _ => rfl)))
    (pss_one (ps_if (PW.pt (pw_and (pt_cmpR op_ne (pv 5) (pv 6) (nomark _)) (pw_and1 (pt_cmpR op_notIn_seq (pv 6) (pe_ix ix_list (pv 2) (pv 5) (fun _ _ => rfl)) (by rfl))))) (pss_cons (ps_set (i := 7) sc_neighbours.nd rfl (Or.inl rfl) (pe_callTy c_list (by rfl) T.m_list (by decide +kernel) (pa_cons (pv 1) pa_nil)))
    (pss_cons (ps_asg (pv 6) (pg_sub (pv 7) (pv 4) set_list))
    (pss_cons (ps_asg (pv 5) (pg_sub (pv 7) (pe_op op_add (pv 4) pe_int) set_list))
    (pss_one (ps_expr (pe_bm PySem.F.plainAttrs_list PySem.F.slot_list_append PySem.F.type_list_append mt_append (pv 3) (pa_cons (pv 7) pa_nil))))))) pss_nil)))))
    (pss_one (ps_ret (pv 3))))))))) hp
theorem sc__law_listed : FnScope N__law_listed ["_law_told", "_law_due"] (defScope (top 55)) := ⟨rfl, rfl, rfl, by decide +kernel, rfl, by decide +kernel, by decide +kernel⟩
theorem ok__law_listed {P : Program} {w : World} {K : PySem.W.Frag} {mg : Str → Option Value} {base : Heap} {cH cHE : Addr} (T : Txt K mg cH cHE) (D : Def K mg 55 "_law_listed") 
    (hp : ∀ vs H Q E, sp__law_listed K vs H Q E → vs.length = 2 ∧ t__law_listed K { nx := fun _ H' => Q .non H', rt := Q } (start N__law_listed vs) H) :
    Cal P w K mg base CX0 1 "_law_listed" ["_law_told", "_law_due"] (sp__law_listed K) :=
  cal_mk (t__law_listed K) D sc__law_listed (fun _ _ _ _ _ _ us hl => match us, hl with | [_, _], _ => rfl) (fun f cdv A outer s H E hr => (pss_cons (ps_if (PW.pt (pw_or (pt_not (pt_val (pe_callB call_isi (by rfl) T.m_isinstance (by decide +kernel) (pa_cons (pv 0) (pa_cons (pe_bltn (v := .ty "list") (by rfl) T.m_list (by decide +kernel) rfl) pa_nil))))) (pw_or1 (pt_cmpR op_ne (pe_callB c_len (by rfl) T.m_len (by decide +kernel) (pa_cons (pv 0) pa_nil)) (pe_callB c_len (by rfl) T.m_len (by decide +kernel) (pa_cons (pv 1) pa_nil)) (nomark _))))) (pss_one (ps_ret pe_bl)) pss_nil)
    (pss_cons (ps_for PassesOwn.never rfl (pi_range1 rfl T.m_range (pa_cons (pe_callB c_len (by rfl) T.m_len (by decide +kernel) (pa_cons (pv 1) pa_nil)) pa_nil)) (pg_name (i := 2) sc__law_listed.nd rfl (Or.inl rfl))
    (pss_one (ps_if (PW.pt (pw_or (pt_not (pt_val (pe_callB call_isi (by rfl) T.m_isinstance (by decide +kernel) (pa_cons (pe_ix ix_list (pv 0) (pv 2) (fun _ _ => rfl)) (pa_cons (pe_bltn (v := .ty "int") (by rfl) T.m_int (by decide +kernel) rfl) pa_nil))))) (pw_or (pt_val (pe_callB call_isi (by rfl) T.m_isinstance (by decide +kernel) (pa_cons (pe_ix ix_list (pv 0) (pv 2) (fun _ _ => rfl)) (pa_cons (pe_bltn (v := .ty "bool") (by rfl) T.m_bool (by decide +kernel) rfl) pa_nil)))) (pw_or1 (pt_cmpR op_ne (pe_ix ix_list (pv 0) (pv 2) (fun _ _ => rfl)) (pe_ix ix_list (pv 1) (pv 2) (fun _ _ => rfl)) (nomark _)))))) (pss_one (ps_ret pe_bl)) pss_nil)))
    (pss_one (ps_ret pe_bl))))) hp
theorem sc__law_wrong : FnScope N__law_wrong ["_law_below_here", "_law_state_here", "_law_lamp", "_law_gentle"] (defScope (top 60)) := ⟨rfl, rfl, rfl, by decide +kernel, rfl, by decide +kernel, by decide +kernel⟩
theorem ok__law_wrong {P : Program} {w : World} {K : PySem.W.Frag} {mg : Str → Option Value} {base : Heap} {cH cHE : Addr} (T : Txt K mg cH cHE) (D : Def K mg 60 "_law_wrong") 
    (hp : ∀ vs H Q E, sp__law_wrong K vs H Q E → vs.length = 4 ∧ t__law_wrong K { nx := fun _ H' => Q .non H', rt := Q } (start N__law_wrong vs) H) :
    Cal P w K mg base CX0 1 "_law_wrong" ["_law_below_here", "_law_state_here", "_law_lamp", "_law_gentle"] (sp__law_wrong K) :=
  cal_mk (t__law_wrong K) D sc__law_wrong (fun _ _ _ _ _ _ us hl => match us, hl with | [_, _, _, _], _ => rfl) (fun f cdv A outer s H E hr => (pss_cons (ps_if (pt_cmpR op_eq (pe_ix ix_tup (pv 1) (pv 2) (fun _ _ => rfl)) pe_int (nomark _)) (pss_one (ps_ret (pe_tup (pa_cons pe_int (pa_cons (pv 2) pa_nil))))) pss_nil)
    (pss_cons (ps_setLc (i := 4) (own := [("_law_other_here", 5)]) rfl sc__law_wrong.nd rfl rfl (sw_true rfl rfl rfl (by decide +kernel)) (pi_list (pe_ix ix_list (pv 0) (pv 2) (fun _ _ => rfl))) (blkOk_by (own := [("_law_other_here", 5)]) (N := N__law_wrong) (sc := (defScope (top 60))) (by decide +kernel)) (fun _ _ _ _ _ => (pg_name (i := 5) sc__law_wrong.nd rfl (Or.inl rfl))) (fun _ _ _ _ _ => (pts_one (pt_cmpR op_gt (pe_ix ix_tup (pv 1) (pv 5) (fun _ _ => rfl)) pe_int (nomark _)))) (fun _ _ _ _ _ => (pv 5)))
    (pss_cons (ps_if (PW.pt (pw_and (pt_val (pv 3)) (pw_and1 (pt_cmpR (op_neD hr.units) (pv 4) (pe_lst pa_nil) (nomark _))))) (pss_one (ps_ret (pe_tup (pa_cons pe_int (pa_cons (pv 2) (pa_cons (pe_ix ix_list (pv 4) pe_int (fun _ _ => rfl)) pa_nil)))))) pss_nil)
    (pss_one (ps_ret (pe_tup pa_nil))))))) hp
theorem sc__law_step : FnScope N__law_step ["_law_hues", "_law_below_here", "_law_state_here", "_law_lamp"] (defScope (top 53)) := ⟨rfl, rfl, rfl, by decide +kernel, rfl, by decide +kernel, by decide +kernel⟩
theorem ok__law_step {P : Program} {w : World} {K : PySem.W.Frag} {mg : Str → Option Value} {base : Heap} {cH cHE : Addr} (T : Txt K mg cH cHE) (D : Def K mg 53 "_law_step") 
    (hp : ∀ vs H Q E, sp__law_step K vs H Q E → vs.length = 4 ∧ t__law_step K { nx := fun _ H' => Q .non H', rt := Q } (start N__law_step vs) H) :
    Cal P w K mg base CX0 1 "_law_step" ["_law_hues", "_law_below_here", "_law_state_here", "_law_lamp"] (sp__law_step K) :=
  cal_mk (t__law_step K) D sc__law_step (fun _ _ _ _ _ _ us hl => match us, hl with | [_, _, _, _], _ => rfl) (fun f cdv A outer s H E hr => (pss_cons (ps_set (i := 4) sc__law_step.nd rfl (Or.inl rfl) (pe_callTy c_list (by rfl) T.m_list (by decide +kernel) (pa_cons (pv 2) pa_nil)))
    (pss_cons (ps_asg (pe_op op_sub (pe_ix ix_list (pv 4) (pv 3) (fun _ _ => rfl)) pe_int) (pg_sub (pv 4) (pv 3) set_list))
    (pss_cons (ps_for PassesOwn.never rfl (pi_list (pe_ix ix_list (pv 1) (pv 3) (fun _ _ => rfl))) (pg_name (i := 5) sc__law_step.nd rfl (Or.inl rfl))
    (pss_cons (ps_asg (pe_op op_sub (pe_ix ix_list (pv 4) (pv 5) (fun _ _ => rfl)) pe_int) (pg_sub (pv 4) (pv 5) set_list))
    (pss_one (ps_if (pt_cmpR op_lt (pe_ix ix_list (pv 4) (pv 5) (fun _ _ => rfl)) pe_int (nomark _)) (pss_one (ps_asg (pe_op op_sub (pv 0) pe_int) (pg_sub (pv 4) (pv 5) set_list))) pss_nil))))
    (pss_one (ps_ret (pe_callTy c_tuple (by rfl) T.m_tuple (by decide +kernel) (pa_cons (pv 4) pa_nil)))))))) hp
theorem sc_lit_beneath : FnScope N_lit_beneath ["house", "state", "lamp"] (defScope (top 29)) := ⟨rfl, rfl, rfl, by decide +kernel, rfl, by decide +kernel, by decide +kernel⟩
theorem ok_lit_beneath {P : Program} {w : World} {K : PySem.W.Frag} {mg : Str → Option Value} {base : Heap} {cH cHE : Addr} (T : Txt K mg cH cHE) (D : Def K mg 29 "lit_beneath") (c_below_masks : Cal P w K mg base CX0 1 "below_masks" ["house"] (sp_below_masks K)) (c_bits : Cal P w K mg base CX0 1 "bits" ["mask"] (sp_bits K))
    (hp : ∀ vs H Q E, sp_lit_beneath K vs H Q E → vs.length = 3 ∧ t_lit_beneath K { nx := fun _ H' => Q .non H', rt := Q } (start N_lit_beneath vs) H) :
    Cal P w K mg base CX0 2 "lit_beneath" ["house", "state", "lamp"] (sp_lit_beneath K) :=
  cal_mk (t_lit_beneath K) D sc_lit_beneath (fun _ _ _ _ _ _ us hl => match us, hl with | [_, _, _], _ => rfl) (fun f cdv A outer s H E hr => (pss_cons (ps_for PassesOwn.never rfl (pi_list (pe_cl c_bits (hr.mono (by decide)) (by rfl) pass0 (pa_cons (pe_ix ix_list (pe_cl c_below_masks (hr.mono (by decide)) (by rfl) pass0 (pa_cons (pv 0) pa_nil)) (pv 2) (fun _ _ => rfl)) pa_nil))) (pg_name (i := 3) sc_lit_beneath.nd rfl (Or.inl rfl))
    (pss_one (ps_if (pt_cmpR op_gt (pe_ix ix_tup (pv 1) (pv 3) (fun _ _ => rfl)) pe_int (nomark _)) (pss_one (ps_ret (pv 3))) pss_nil)))
    (pss_one (ps_ret pe_non)))) hp
theorem sc_is_integer : FnScope N_is_integer ["value"] (defScope (top 10)) := ⟨rfl, rfl, rfl, by decide +kernel, rfl, by decide +kernel, by decide +kernel⟩
theorem ok_is_integer {P : Program} {w : World} {K : PySem.W.Frag} {mg : Str → Option Value} {base : Heap} {cH cHE : Addr} (T : Txt K mg cH cHE) (D : Def K mg 10 "is_integer") 
    (hp : ∀ vs H Q E, sp_is_integer K vs H Q E → vs.length = 1 ∧ t_is_integer K { nx := fun _ H' => Q .non H', rt := Q } (start N_is_integer vs) H) :
    Cal P w K mg base CX0 1 "is_integer" ["value"] (sp_is_integer K) :=
  cal_mk (t_is_integer K) D sc_is_integer (fun _ _ _ _ _ _ us hl => match us, hl with | [_], _ => rfl) (fun f cdv A outer s H E hr => (pss_one (ps_ret (pe_and (pe_callB call_isi (by rfl) T.m_isinstance (by decide +kernel) (pa_cons (pv 0) (pa_cons (pe_bltn (v := .ty "int") (by rfl) T.m_int (by decide +kernel) rfl) pa_nil))) (pe_one (pe_not (pe_callB call_isi (by rfl) T.m_isinstance (by decide +kernel) (pa_cons (pv 0) (pa_cons (pe_bltn (v := .ty "bool") (by rfl) T.m_bool (by decide +kernel) rfl) pa_nil))))))))) hp
theorem sc_above_masks : FnScope N_above_masks ["house"] (defScope (top 14)) := ⟨rfl, rfl, rfl, by decide +kernel, rfl, by decide +kernel, by decide +kernel⟩
theorem ok_above_masks {P : Program} {w : World} {K : PySem.W.Frag} {mg : Str → Option Value} {base : Heap} {cH cHE : Addr} (T : Txt K mg cH cHE) (D : Def K mg 14 "above_masks") 
    (hp : ∀ vs H Q E, sp_above_masks K vs H Q E → vs.length = 1 ∧ t_above_masks K { nx := fun _ H' => Q .non H', rt := Q } (start N_above_masks vs) H) :
    Cal P w K mg base CX0 1 "above_masks" ["house"] (sp_above_masks K) :=
  cal_mk (t_above_masks K) D sc_above_masks (fun _ _ _ _ _ _ us hl => match us, hl with | [_], _ => rfl) (fun f cdv A outer s H E hr => (pss_one (ps_ret (pe_fld (pv 0) rfl)))) hp
end Hue
end
section
set_option maxHeartbeats 4000000
namespace Hue
open PySem PySem.Spec PyProof.Rows L2
theorem sc__law_lamps : FnScope N__law_lamps ["_law_box_here", "_law_world_here", "_law_most"] (defScope (top 61)) := ⟨rfl, rfl, rfl, by decide +kernel, rfl, by decide +kernel, by decide +kernel⟩
theorem ok__law_lamps {P : Program} {w : World} {K : PySem.W.Frag} {mg : Str → Option Value} {base : Heap} {cH cHE : Addr} (T : Txt K mg cH cHE) (D : Def K mg 61 "_law_lamps") (c__law_step : Cal P w K mg base CX0 1 "_law_step" ["_law_hues", "_law_below_here", "_law_state_here", "_law_lamp"] (sp__law_step K)) (c__law_take : Cal P w K mg base CX0 2 "_law_take" ["_law_box_here", "_law_many"] (sp__law_take K)) (c__law_wrong : Cal P w K mg base CX0 1 "_law_wrong" ["_law_below_here", "_law_state_here", "_law_lamp", "_law_gentle"] (sp__law_wrong K))
    (hp : ∀ vs H Q E, sp__law_lamps K vs H Q E → vs.length = 3 ∧ t__law_lamps K { nx := fun _ H' => Q .non H', rt := Q } (start N__law_lamps vs) H) :
    Cal P w K mg base CX0 3 "_law_lamps" ["_law_box_here", "_law_world_here", "_law_most"] (sp__law_lamps K) :=
  cal_mk (t__law_lamps K) D sc__law_lamps (fun _ _ _ _ _ _ us hl => match us, hl with | [_, _, _], _ => rfl) (fun f cdv A outer s H E hr => (pss_cons (ps_asg (pv 1) (pg_tup rfl (pgs_cons (pg_name (i := 3) sc__law_lamps.nd rfl (Or.inl rfl)) (pgs_cons (pg_name (i := 4) sc__law_lamps.nd rfl (Or.inl rfl)) (pgs_cons (pg_name (i := 5) sc__law_lamps.nd rfl (Or.inr rfl)) (pgs_cons (pg_name (i := 6) sc__law_lamps.nd rfl (Or.inr rfl)) pgs_nil))))))
    (pss_cons (ps_set (i := 7) sc__law_lamps.nd rfl (Or.inl rfl) (pe_cl c__law_take (hr.mono (by decide)) (by rfl) pass0 (pa_cons (pv 0) (pa_cons (pe_op op_add (pv 2) pe_int) pa_nil))))
    (pss_cons (ps_if (pt_cmpR op_eq (pe_cl c__law_take (hr.mono (by decide)) (by rfl) pass0 (pa_cons (pv 0) (pa_cons pe_int pa_nil))) pe_int (nomark _)) (pss_one (ps_ret (pe_lc (own := [("_law_k", 12)]) rfl sc__law_lamps.nd (pi_range1 rfl T.m_range (pa_cons (pv 7) pa_nil)) (blkOk_by (own := [("_law_k", 12)]) (N := N__law_lamps) (sc := (defScope (top 61))) (by decide +kernel)) (fun _ _ _ _ _ => (pg_name (i := 12) sc__law_lamps.nd rfl (Or.inl rfl))) (fun _ _ _ _ _ => pts_nil) (fun _ _ _ _ _ => (pe_cl c__law_take (hr.mono (by decide)) (by rfl) pass0 (pa_cons (pv 0) (pa_cons (pe_callB c_len (by rfl) T.m_len (by decide +kernel) (pa_cons (pv 6) pa_nil)) pa_nil))))))) pss_nil)
    (pss_cons (ps_set (i := 8) sc__law_lamps.nd rfl (Or.inr rfl) (pe_cmpR op_eq (pe_cl c__law_take (hr.mono (by decide)) (by rfl) pass0 (pa_cons (pv 0) (pa_cons pe_int pa_nil))) pe_int (nomark _)))
    (pss_cons (ps_set (i := 9) sc__law_lamps.nd rfl (Or.inl rfl) (pe_lst pa_nil))
    (pss_cons (ps_for PassesOwn.never rfl (pi_range1 rfl T.m_range (pa_cons (pv 7) pa_nil)) (pg_name (i := 10) sc__law_lamps.nd rfl (Or.inl rfl))
    (pss_cons (ps_setLc (i := 11) (own := [("_law_lamp", 13)]) rfl sc__law_lamps.nd rfl rfl (sw_true rfl rfl rfl (by decide +kernel)) (pi_range1 rfl T.m_range (pa_cons (pe_callB c_len (by rfl) T.m_len (by decide +kernel) (pa_cons (pv 6) pa_nil)) pa_nil)) (blkOk_by (own := [("_law_lamp", 13)]) (N := N__law_lamps) (sc := (defScope (top 61))) (by decide +kernel)) (fun _ _ _ _ _ => (pg_name (i := 13) sc__law_lamps.nd rfl (Or.inl rfl))) (fun _ _ _ _ _ => (pts_one (pt_cmpR (op_eqD hr.units) (pe_cl c__law_wrong (hr.mono (by decide)) (by rfl) pass0 (pa_cons (pv 5) (pa_cons (pv 6) (pa_cons (pv 13) (pa_cons (pv 8) pa_nil))))) (pe_tup pa_nil) (nomark _)))) (fun _ _ _ _ _ => (pv 13)))
    (pss_cons (ps_if (pt_cmpR (op_eqD hr.units) (pv 11) (pe_lst pa_nil) (nomark _)) (pss_one ps_break) pss_nil)
    (pss_cons (ps_expr (pe_bm PySem.F.plainAttrs_list PySem.F.slot_list_append PySem.F.type_list_append mt_append (pv 9) (pa_cons (pe_ix ix_list (pv 11) (pe_cl c__law_take (hr.mono (by decide)) (by rfl) pass0 (pa_cons (pv 0) (pa_cons (pe_callB c_len (by rfl) T.m_len (by decide +kernel) (pa_cons (pv 11) pa_nil)) pa_nil))) (fun _ _ => rfl)) pa_nil)))
    (pss_one (ps_set (i := 6) sc__law_lamps.nd rfl (Or.inr rfl) (pe_cl c__law_step (hr.mono (by decide)) (by rfl) pass0 (pa_cons (pv 4) (pa_cons (pv 5) (pa_cons (pv 6) (pa_cons (pe_ix ix_list (pv 9) (pe_un un_neg pe_int) (fun _ _ => rfl)) pa_nil)))))))))))
    (pss_one (ps_ret (pv 9)))))))))) hp
theorem sc_is_swap : FnScope N_is_swap ["house", "first", "second"] (defScope (top 40)) := ⟨rfl, rfl, rfl, by decide +kernel, rfl, by decide +kernel, by decide +kernel⟩
theorem ok_is_swap {P : Program} {w : World} {K : PySem.W.Frag} {mg : Str → Option Value} {base : Heap} {cH cHE : Addr} (T : Txt K mg cH cHE) (D : Def K mg 40 "is_swap") (c_below_masks : Cal P w K mg base CX0 1 "below_masks" ["house"] (sp_below_masks K)) (c_bits : Cal P w K mg base CX0 1 "bits" ["mask"] (sp_bits K)) (c_counts_of : Cal P w K mg base CX0 6 "counts_of" ["house", "run"] (sp_counts_of K)) (c_moves_at : Cal P w K mg base CX0 1 "moves_at" ["run", "upper", "lower"] (sp_moves_at K)) (c_need_run : Cal P w K mg base (L2.CX P w) 5 "need_run" ["house", "run"] (sp_need_run K))
    (hp : ∀ vs H Q E, sp_is_swap K vs H Q E → vs.length = 3 ∧ t_is_swap K E { nx := fun _ H' => Q .non H', rt := Q } (start N_is_swap vs) H) :
    Cal P w K mg base (L2.CX P w) 7 "is_swap" ["house", "first", "second"] (sp_is_swap K) :=
  cal_mkX (t_is_swap K) D sc_is_swap (fun _ _ _ _ _ _ us hl => match us, hl with | [_, _, _], _ => rfl) (fun f cdv A outer s H E hr => (pss_cons (ps_expr (pe_cl c_need_run (hr.mono (by decide)) (by rfl) (passes_call (W := fun c d _ H => E c d H) (takes_of rfl rfl rfl rfl) (fun _ _ _ _ h => h)) (pa_cons (pv 0) (pa_cons (pv 1) pa_nil))))
    (pss_cons (ps_expr (pe_cl c_need_run (hr.mono (by decide)) (by rfl) (passes_call (W := fun c d _ H => E c d H) (takes_of rfl rfl rfl rfl) (fun _ _ _ _ h => h)) (pa_cons (pv 0) (pa_cons (pv 2) pa_nil))))
    (PSs.nox (pss_cons (ps_if (pt_cmpR (op_neD hr.units) (pe_cl c_counts_of (hr.mono (by decide)) (by rfl) pass0 (pa_cons (pv 0) (pa_cons (pv 1) pa_nil))) (pe_cl c_counts_of (hr.mono (by decide)) (by rfl) pass0 (pa_cons (pv 0) (pa_cons (pv 2) pa_nil))) (nomark _)) (pss_one (ps_ret pe_bl)) pss_nil)
    (pss_cons (ps_set (i := 3) sc_is_swap.nd rfl (Or.inl rfl) (pe_cl c_below_masks (hr.mono (by decide)) (by rfl) pass0 (pa_cons (pv 0) pa_nil)))
    (pss_cons (ps_for PassesOwn.never rfl (pi_range1 rfl T.m_range (pa_cons (pe_fld (pv 0) rfl) pa_nil)) (pg_name (i := 4) sc_is_swap.nd rfl (Or.inl rfl))
    (pss_one (ps_for PassesOwn.never rfl (pi_list (pe_cl c_bits (hr.mono (by decide)) (by rfl) pass0 (pa_cons (pe_ix ix_list (pv 3) (pv 4) (fun _ _ => rfl)) pa_nil))) (pg_name (i := 5) sc_is_swap.nd rfl (Or.inl rfl))
    (pss_one (ps_if (pt_cmpR (op_neD hr.units) (pe_cl c_moves_at (hr.mono (by decide)) (by rfl) pass0 (pa_cons (pv 1) (pa_cons (pv 4) (pa_cons (pv 5) pa_nil)))) (pe_cl c_moves_at (hr.mono (by decide)) (by rfl) pass0 (pa_cons (pv 2) (pa_cons (pv 4) (pa_cons (pv 5) pa_nil)))) (nomark _)) (pss_one (ps_ret pe_bl)) pss_nil)))))
    (pss_one (ps_ret pe_bl))))))))) hp
theorem sc__law_shuffled : FnScope N__law_shuffled ["_law_box_here", "_law_below_here", "_law_lamps_here"] (defScope (top 67)) := ⟨rfl, rfl, rfl, by decide +kernel, rfl, by decide +kernel, by decide +kernel⟩
theorem ok__law_shuffled {P : Program} {w : World} {K : PySem.W.Frag} {mg : Str → Option Value} {base : Heap} {cH cHE : Addr} (T : Txt K mg cH cHE) (D : Def K mg 67 "_law_shuffled") (c__law_apart : Cal P w K mg base CX0 1 "_law_apart" ["_law_below_here", "_law_one", "_law_two"] (sp__law_apart K)) (c__law_take : Cal P w K mg base CX0 2 "_law_take" ["_law_box_here", "_law_many"] (sp__law_take K))
    (hp : ∀ vs H Q E, sp__law_shuffled K vs H Q E → vs.length = 3 ∧ t__law_shuffled K { nx := fun _ H' => Q .non H', rt := Q } (start N__law_shuffled vs) H) :
    Cal P w K mg base CX0 3 "_law_shuffled" ["_law_box_here", "_law_below_here", "_law_lamps_here"] (sp__law_shuffled K) :=
  cal_mk (t__law_shuffled K) D sc__law_shuffled (fun _ _ _ _ _ _ us hl => match us, hl with | [_, _, _], _ => rfl) (fun f cdv A outer s H E hr => (pss_cons (ps_set (i := 3) sc__law_shuffled.nd rfl (Or.inl rfl) (pe_callTy c_list (by rfl) T.m_list (by decide +kernel) (pa_cons (pv 2) pa_nil)))
    (pss_cons (ps_for PassesOwn.never rfl (pi_range1 rfl T.m_range (pa_cons (pe_cl c__law_take (hr.mono (by decide)) (by rfl) pass0 (pa_cons (pv 0) (pa_cons pe_int pa_nil))) pa_nil)) (pg_name (i := 4) sc__law_shuffled.nd rfl (Or.inl rfl))
    (pss_one (ps_for PassesOwn.never rfl (pi_range1 rfl T.m_range (pa_cons (pe_op op_sub (pe_callB c_len (by rfl) T.m_len (by decide +kernel) (pa_cons (pv 3) pa_nil)) pe_int) pa_nil)) (pg_name (i := 5) sc__law_shuffled.nd rfl (Or.inl rfl))
    (pss_one (ps_if (PW.pt (pw_and (pt_val (pe_cl c__law_apart (hr.mono (by decide)) (by rfl) pass0 (pa_cons (pv 1) (pa_cons (pe_ix ix_list (pv 3) (pv 5) (fun _ _ => rfl)) (pa_cons (pe_ix ix_list (pv 3) (pe_op op_add (pv 5) pe_int) (fun _ _ => rfl)) pa_nil))))) (pw_and1 (pt_cmpR op_eq (pe_cl c__law_take (hr.mono (by decide)) (by rfl) pass0 (pa_cons (pv 0) (pa_cons pe_int pa_nil))) pe_int (nomark _))))) (pss_one (ps_set (i := 3) sc__law_shuffled.nd rfl (Or.inl rfl) (pe_op op_cat (pe_op op_cat (pe_slice sl_list (pv 3) po_none (po_some (pv 5))) (pe_lst (pa_cons (pe_ix ix_list (pv 3) (pe_op op_add (pv 5) pe_int) (fun _ _ => rfl)) (pa_cons (pe_ix ix_list (pv 3) (pv 5) (fun _ _ => rfl)) pa_nil)))) (pe_slice sl_list (pv 3) (po_some (pe_op op_add (pv 5) pe_int)) po_none)))) pss_nil)))))
    (pss_one (ps_ret (pv 3)))))) hp
theorem sc__law_same : FnScope N__law_same ["_law_told", "_law_due"] (defScope (top 54)) := ⟨rfl, rfl, rfl, by decide +kernel, rfl, by decide +kernel, by decide +kernel⟩
theorem ok__law_same {P : Program} {w : World} {K : PySem.W.Frag} {mg : Str → Option Value} {base : Heap} {cH cHE : Addr} (T : Txt K mg cH cHE) (D : Def K mg 54 "_law_same") 
    (hp : ∀ vs H Q E, sp__law_same K vs H Q E → vs.length = 2 ∧ t__law_same K { nx := fun _ H' => Q .non H', rt := Q } (start N__law_same vs) H) :
    Cal P w K mg base CX0 1 "_law_same" ["_law_told", "_law_due"] (sp__law_same K) :=
  cal_mk (t__law_same K) D sc__law_same (fun _ _ _ _ _ _ us hl => match us, hl with | [_, _], _ => rfl) (fun f cdv A outer s H E hr => (pss_cons (ps_if (PW.pt (pw_or (pt_not (pt_val (pe_callB call_isi (by rfl) T.m_isinstance (by decide +kernel) (pa_cons (pv 0) (pa_cons (pe_bltn (v := .ty "tuple") (by rfl) T.m_tuple (by decide +kernel) rfl) pa_nil))))) (pw_or1 (pt_cmpR op_ne (pe_callB c_len (by rfl) T.m_len (by decide +kernel) (pa_cons (pv 0) pa_nil)) (pe_callB c_len (by rfl) T.m_len (by decide +kernel) (pa_cons (pv 1) pa_nil)) (nomark _))))) (pss_one (ps_ret pe_bl)) pss_nil)
    (pss_cons (ps_for PassesOwn.never rfl (pi_range1 rfl T.m_range (pa_cons (pe_callB c_len (by rfl) T.m_len (by decide +kernel) (pa_cons (pv 1) pa_nil)) pa_nil)) (pg_name (i := 2) sc__law_same.nd rfl (Or.inl rfl))
    (pss_one (ps_if (PW.pt (pw_or (pt_not (pt_val (pe_callB call_isi (by rfl) T.m_isinstance (by decide +kernel) (pa_cons (pe_ix ix_tup (pv 0) (pv 2) (fun _ _ => rfl)) (pa_cons (pe_bltn (v := .ty "int") (by rfl) T.m_int (by decide +kernel) rfl) pa_nil))))) (pw_or (pt_val (pe_callB call_isi (by rfl) T.m_isinstance (by decide +kernel) (pa_cons (pe_ix ix_tup (pv 0) (pv 2) (fun _ _ => rfl)) (pa_cons (pe_bltn (v := .ty "bool") (by rfl) T.m_bool (by decide +kernel) rfl) pa_nil)))) (pw_or1 (pt_cmpR op_ne (pe_ix ix_tup (pv 0) (pv 2) (fun _ _ => rfl)) (pe_ix ix_tup (pv 1) (pv 2) (fun _ _ => rfl)) (nomark _)))))) (pss_one (ps_ret pe_bl)) pss_nil)))
    (pss_one (ps_ret pe_bl))))) hp
theorem sc__is_wire : FnScope N__is_wire ["count", "value"] (defScope (top 16)) := ⟨rfl, rfl, rfl, by decide +kernel, rfl, by decide +kernel, by decide +kernel⟩
theorem ok__is_wire {P : Program} {w : World} {K : PySem.W.Frag} {mg : Str → Option Value} {base : Heap} {cH cHE : Addr} (T : Txt K mg cH cHE) (D : Def K mg 16 "_is_wire") (c_is_integer : Cal P w K mg base CX0 1 "is_integer" ["value"] (sp_is_integer K))
    (hp : ∀ vs H Q E, sp__is_wire K vs H Q E → vs.length = 2 ∧ t__is_wire K { nx := fun _ H' => Q .non H', rt := Q } (start N__is_wire vs) H) :
    Cal P w K mg base CX0 2 "_is_wire" ["count", "value"] (sp__is_wire K) :=
  cal_mk (t__is_wire K) D sc__is_wire (fun _ _ _ _ _ _ us hl => match us, hl with | [_, _], _ => rfl) (fun f cdv A outer s H E hr => (pss_cons (ps_if (PW.pt (pw_or (pt_not (pt_val (pe_callB call_isi (by rfl) T.m_isinstance (by decide +kernel) (pa_cons (pv 1) (pa_cons (pe_bltn (v := .ty "tuple") (by rfl) T.m_tuple (by decide +kernel) rfl) pa_nil))))) (pw_or1 (pt_cmpR op_ne (pe_callB c_len (by rfl) T.m_len (by decide +kernel) (pa_cons (pv 1) pa_nil)) pe_int (nomark _))))) (pss_one (ps_ret pe_bl)) pss_nil)
    (pss_cons (ps_asg (pv 1) (pg_tup rfl (pgs_cons (pg_name (i := 2) sc__is_wire.nd rfl (Or.inl rfl)) (pgs_cons (pg_name (i := 3) sc__is_wire.nd rfl (Or.inl rfl)) pgs_nil))))
    (pss_cons (ps_if (PW.pt (pw_or (pt_not (pt_val (pe_cl c_is_integer (hr.mono (by decide)) (by rfl) pass0 (pa_cons (pv 2) pa_nil)))) (pw_or1 (pt_not (pt_val (pe_cl c_is_integer (hr.mono (by decide)) (by rfl) pass0 (pa_cons (pv 3) pa_nil))))))) (pss_one (ps_ret pe_bl)) pss_nil)
    (pss_one (ps_ret (pe_and (pe_chain op_le op_lt pe_int (pv 2) (pv 0)) (pe_and (pe_chain op_le op_lt pe_int (pv 3) (pv 0)) (pe_one (pe_cmpR op_ne (pv 2) (pv 3) (nomark _))))))))))) hp
theorem sc__law_mixed : FnScope N__law_mixed ["_law_seed", "_law_turn"] (defScope (top 46)) := ⟨rfl, rfl, rfl, by decide +kernel, rfl, by decide +kernel, by decide +kernel⟩
theorem ok__law_mixed {P : Program} {w : World} {K : PySem.W.Frag} {mg : Str → Option Value} {base : Heap} {cH cHE : Addr} (T : Txt K mg cH cHE) (D : Def K mg 46 "_law_mixed") 
    (hp : ∀ vs H Q E, sp__law_mixed K vs H Q E → vs.length = 2 ∧ t__law_mixed K { nx := fun _ H' => Q .non H', rt := Q } (start N__law_mixed vs) H) :
    Cal P w K mg base CX0 1 "_law_mixed" ["_law_seed", "_law_turn"] (sp__law_mixed K) :=
  cal_mk (t__law_mixed K) D sc__law_mixed (fun _ _ _ _ _ _ us hl => match us, hl with | [_, _], _ => rfl) (fun f cdv A outer s H E hr => (pss_cons (ps_set (i := 2) sc__law_mixed.nd rfl (Or.inl rfl) (pe_op op_mod (pe_callTy c_int (by rfl) T.m_int (by decide +kernel) (pa_cons (pe_op op_add (pe_op op_add (pe_op op_mul (pv 0) pe_int) (pe_op op_mul (pv 1) pe_int)) pe_int) pa_nil)) pe_int))
    (pss_cons (ps_set (i := 3) sc__law_mixed.nd rfl (Or.inl rfl) (pe_op op_mod (pe_callTy c_int (by rfl) T.m_int (by decide +kernel) (pa_cons (pe_op op_add (pe_op op_add (pe_op op_mul (pv 2) (pv 2)) (pe_op op_mul (pv 1) pe_int)) (pe_op op_fdiv (pv 2) pe_int)) pa_nil)) pe_int))
    (pss_cons (ps_set (i := 4) sc__law_mixed.nd rfl (Or.inl rfl) (pe_op op_mod (pe_callTy c_int (by rfl) T.m_int (by decide +kernel) (pa_cons (pe_op op_add (pe_op op_mul (pv 3) pe_int) (pe_op op_mul (pe_op op_fdiv (pv 3) pe_int) (pe_op op_add (pv 1) pe_int))) pa_nil)) pe_int))
    (pss_one (ps_ret (pe_op op_fdiv (pv 4) pe_int))))))) hp
theorem sc_refuse : FnScope N_refuse ["house", "state", "lamp", "step", "careful"] (defScope (top 32)) := ⟨rfl, rfl, rfl, by decide +kernel, rfl, by decide +kernel, by decide +kernel⟩
theorem ok_refuse {P : Program} {w : World} {K : PySem.W.Frag} {mg : Str → Option Value} {base : Heap} {cH cHE : Addr} (T : Txt K mg cH cHE) (D : Def K mg 32 "refuse") (c_lit_beneath : Cal P w K mg base CX0 2 "lit_beneath" ["house", "state", "lamp"] (sp_lit_beneath K))
    (hp : ∀ vs H Q E, sp_refuse K vs H Q E → vs.length = 5 ∧ t_refuse K { nx := fun _ H' => Q .non H', rt := Q } (start N_refuse vs) H) :
    Cal P w K mg base CX0 3 "refuse" ["house", "state", "lamp", "step", "careful"] (sp_refuse K) :=
  cal_mk (t_refuse K) D sc_refuse (fun _ _ _ _ _ _ us hl => match us, hl with | [_, _, _, _, _], _ => rfl) (fun f cdv A outer s H E hr => (pss_cons (ps_if (pt_cmpR op_eq (pe_ix ix_tup (pv 1) (pv 2) (fun _ _ => rfl)) pe_int (nomark _)) pss_never pss_nil)
    (pss_one (ps_if (pt_val (pv 4)) (pss_cons (ps_set (i := 5) sc_refuse.nd rfl (Or.inl rfl) (pe_cl c_lit_beneath (hr.mono (by decide)) (by rfl) pass0 (pa_cons (pv 0) (pa_cons (pv 1) (pa_cons (pv 2) pa_nil)))))
    (pss_one (ps_if (pt_cmpR op_notN (pv 5) pe_non (nomark _)) pss_never pss_nil))) pss_nil)))) hp
theorem sc_bits : FnScope N_bits ["mask"] (defScope (top 12)) := ⟨rfl, rfl, rfl, by decide +kernel, rfl, by decide +kernel, by decide +kernel⟩
theorem ok_bits {P : Program} {w : World} {K : PySem.W.Frag} {mg : Str → Option Value} {base : Heap} {cH cHE : Addr} (T : Txt K mg cH cHE) (D : Def K mg 12 "bits") 
    (hp : ∀ vs H Q E, sp_bits K vs H Q E → vs.length = 1 ∧ t_bits K { nx := fun _ H' => Q .non H', rt := Q } (start N_bits vs) H) :
    Cal P w K mg base CX0 1 "bits" ["mask"] (sp_bits K) :=
  cal_mk (t_bits K) D sc_bits (fun _ _ _ _ _ _ us hl => match us, hl with | [_], _ => rfl) (fun f cdv A outer s H E hr => (pss_one (ps_ret (pe_lc (own := [("lamp", 1)]) rfl sc_bits.nd (pi_range1 rfl T.m_range (pa_cons (pe_bits (pv 0)) pa_nil)) (blkOk_by (own := [("lamp", 1)]) (N := N_bits) (sc := (defScope (top 12))) (by decide +kernel)) (fun _ _ _ _ _ => (pg_name (i := 1) sc_bits.nd rfl (Or.inl rfl))) (fun _ _ _ _ _ => (pts_one (pt_cmpR op_eq (pe_op op_and (pe_op op_shr (pv 0) (pv 1)) pe_int) pe_int (nomark _)))) (fun _ _ _ _ _ => (pv 1)))))) hp
theorem sc_below_masks : FnScope N_below_masks ["house"] (defScope (top 13)) := ⟨rfl, rfl, rfl, by decide +kernel, rfl, by decide +kernel, by decide +kernel⟩
theorem ok_below_masks {P : Program} {w : World} {K : PySem.W.Frag} {mg : Str → Option Value} {base : Heap} {cH cHE : Addr} (T : Txt K mg cH cHE) (D : Def K mg 13 "below_masks") 
    (hp : ∀ vs H Q E, sp_below_masks K vs H Q E → vs.length = 1 ∧ t_below_masks K { nx := fun _ H' => Q .non H', rt := Q } (start N_below_masks vs) H) :
    Cal P w K mg base CX0 1 "below_masks" ["house"] (sp_below_masks K) :=
  cal_mk (t_below_masks K) D sc_below_masks (fun _ _ _ _ _ _ us hl => match us, hl with | [_], _ => rfl) (fun f cdv A outer s H E hr => (pss_one (ps_ret (pe_fld (pv 0) rfl)))) hp
end Hue
end
section
set_option maxHeartbeats 4000000
namespace Hue
open PySem PySem.Spec PyProof.Rows L2
theorem sc__law_long : FnScope N__law_long ["_law_box_here", "_law_world_here", "_law_lamps_here"] (defScope (top 75)) := ⟨rfl, rfl, rfl, by decide +kernel, rfl, by decide +kernel, by decide +kernel⟩
theorem ok__law_long {P : Program} {w : World} {K : PySem.W.Frag} {mg : Str → Option Value} {base : Heap} {cH cHE : Addr} (T : Txt K mg cH cHE) (D : Def K mg 75 "_law_long") (c__law_agree : Cal P w K mg base CX0 2 "_law_agree" ["_law_below_here", "_law_first", "_law_second_here"] (sp__law_agree K)) (c__law_form : Cal P w K mg base CX0 7 "_law_form" ["_law_house_here", "_law_lamps_here", "_law_due"] (sp__law_form K)) (c__law_listing : Cal P w K mg base CX0 7 "_law_listing" ["_law_house_here", "_law_below_here", "_law_lamps_here"] (sp__law_listing K)) (c__law_other : Cal P w K mg base CX0 4 "_law_other" ["_law_box_here", "_law_below_here", "_law_lamps_here"] (sp__law_other K)) (c__law_pair : Cal P w K mg base CX0 8 "_law_pair" ["_law_house_here", "_law_first", "_law_second_here", "_law_due"] (sp__law_pair K)) (c__law_played : Cal P w K mg base CX0 7 "_law_played" ["_law_world_here", "_law_lamps_here", "_law_other_here"] (sp__law_played K)) (c__law_shuffled : Cal P w K mg base CX0 3 "_law_shuffled" ["_law_box_here", "_law_below_here", "_law_lamps_here"] (sp__law_shuffled K)) (c__law_sorted : Cal P w K mg base CX0 2 "_law_sorted" ["_law_below_here", "_law_lamps_here"] (sp__law_sorted K))
    (hp : ∀ vs H Q E, sp__law_long K vs H Q E → vs.length = 3 ∧ t__law_long K { nx := fun _ H' => Q .non H', rt := Q } (start N__law_long vs) H) :
    Cal P w K mg base CX0 9 "_law_long" ["_law_box_here", "_law_world_here", "_law_lamps_here"] (sp__law_long K) :=
  cal_mk (t__law_long K) D sc__law_long (fun _ _ _ _ _ _ us hl => match us, hl with | [_, _, _], _ => rfl) (fun f cdv A outer s H E hr => (pss_cons (ps_asg (pv 1) (pg_tup rfl (pgs_cons (pg_name (i := 3) sc__law_long.nd rfl (Or.inl rfl)) (pgs_cons (pg_name (i := 4) sc__law_long.nd rfl (Or.inl rfl)) (pgs_cons (pg_name (i := 5) sc__law_long.nd rfl (Or.inl rfl)) (pgs_cons (pg_name (i := 6) sc__law_long.nd rfl (Or.inl rfl)) pgs_nil))))))
    (pss_cons (ps_set (i := 7) sc__law_long.nd rfl (Or.inl rfl) (pe_cl c__law_sorted (hr.mono (by decide)) (by rfl) pass0 (pa_cons (pv 5) (pa_cons (pv 2) pa_nil))))
    (pss_cons (ps_if (PW.pt (pw_or (pt_not (pt_val (pe_cl c__law_form (hr.mono (by decide)) (by rfl) pass0 (pa_cons (pv 3) (pa_cons (pv 2) (pa_cons (pv 7) pa_nil)))))) (pw_or1 (pt_not (pt_val (pe_cl c__law_played (hr.mono (by decide)) (by rfl) pass0 (pa_cons (pv 1) (pa_cons (pv 2) (pa_cons (pv 7) pa_nil))))))))) (pss_one (ps_ret pe_bl)) pss_nil)
    (pss_cons (ps_set (i := 8) sc__law_long.nd rfl (Or.inl rfl) (pe_cl c__law_shuffled (hr.mono (by decide)) (by rfl) pass0 (pa_cons (pv 0) (pa_cons (pv 5) (pa_cons (pv 2) pa_nil)))))
    (pss_cons (ps_if (PW.pt (pw_or (pt_not (pt_val (pe_cl c__law_pair (hr.mono (by decide)) (by rfl) pass0 (pa_cons (pv 3) (pa_cons (pv 2) (pa_cons (pv 8) (pa_cons pe_bl pa_nil))))))) (pw_or1 (pt_not (pt_val (pe_cl c__law_played (hr.mono (by decide)) (by rfl) pass0 (pa_cons (pv 1) (pa_cons (pv 2) (pa_cons (pv 8) pa_nil))))))))) (pss_one (ps_ret pe_bl)) pss_nil)
    (pss_cons (ps_for PassesOwn.never rfl (pi_range1 rfl T.m_range (pa_cons pe_int pa_nil)) (pg_name (i := 9) sc__law_long.nd rfl (Or.inl rfl))
    (pss_cons (ps_set (i := 10) sc__law_long.nd rfl (Or.inl rfl) (pe_cl c__law_other (hr.mono (by decide)) (by rfl) pass0 (pa_cons (pv 0) (pa_cons (pv 5) (pa_cons (pv 2) pa_nil)))))
    (pss_one (ps_if (pt_not (pt_val (pe_cl c__law_pair (hr.mono (by decide)) (by rfl) pass0 (pa_cons (pv 3) (pa_cons (pv 2) (pa_cons (pv 10) (pa_cons (pe_cl c__law_agree (hr.mono (by decide)) (by rfl) pass0 (pa_cons (pv 5) (pa_cons (pv 2) (pa_cons (pv 10) pa_nil)))) pa_nil))))))) (pss_one (ps_ret pe_bl)) pss_nil))))
    (pss_one (ps_ret (pe_cl c__law_listing (hr.mono (by decide)) (by rfl) pass0 (pa_cons (pv 3) (pa_cons (pv 5) (pa_cons (pv 2) pa_nil))))))))))))) hp
theorem sc__law_take : FnScope N__law_take ["_law_box_here", "_law_many"] (defScope (top 47)) := ⟨rfl, rfl, rfl, by decide +kernel, rfl, by decide +kernel, by decide +kernel⟩
theorem ok__law_take {P : Program} {w : World} {K : PySem.W.Frag} {mg : Str → Option Value} {base : Heap} {cH cHE : Addr} (T : Txt K mg cH cHE) (D : Def K mg 47 "_law_take") (c__law_mixed : Cal P w K mg base CX0 1 "_law_mixed" ["_law_seed", "_law_turn"] (sp__law_mixed K))
    (hp : ∀ vs H Q E, sp__law_take K vs H Q E → vs.length = 2 ∧ t__law_take K { nx := fun _ H' => Q .non H', rt := Q } (start N__law_take vs) H) :
    Cal P w K mg base CX0 2 "_law_take" ["_law_box_here", "_law_many"] (sp__law_take K) :=
  cal_mk (t__law_take K) D sc__law_take (fun _ _ _ _ _ _ us hl => match us, hl with | [_, _], _ => rfl) (fun f cdv A outer s H E hr => (pss_cons (ps_if (PW.pt (pw_and (pt_cmpR op_eq (pe_ix ix_list (pv 0) pe_int (fun _ _ => rfl)) pe_int (nomark _)) (pw_and1 (pt_cmpR op_lt (pe_ix ix_list (pv 0) pe_int (fun _ _ => rfl)) (pe_callB c_len (by rfl) T.m_len (by decide +kernel) (pa_cons (pv 0) pa_nil)) (nomark _))))) (pss_cons (ps_set (i := 2) sc__law_take.nd rfl (Or.inl rfl) (pe_ix ix_list (pv 0) (pe_ix ix_list (pv 0) pe_int (fun _ _ => rfl)) (fun _ _ => rfl)))
    (pss_cons (ps_asg (pe_op op_add (pe_ix ix_list (pv 0) pe_int (fun _ _ => rfl)) pe_int) (pg_sub (pv 0) pe_int set_list))
    (pss_one (ps_if (pt_cmpR op_ge (pv 2) (pe_op op_pow pe_int pe_int) (nomark _)) (pss_one (ps_asg (pv 2) (pg_sub (pv 0) pe_int set_list))) (pss_one (ps_asg (pe_op op_mod (pe_callTy c_int (by rfl) T.m_int (by decide +kernel) (pa_cons (pe_op op_add (pe_op op_add (pe_op op_mul (pe_ix ix_list (pv 0) pe_int (fun _ _ => rfl)) pe_int) (pe_op op_mul (pv 2) pe_int)) pe_int) pa_nil)) pe_int) (pg_sub (pv 0) pe_int set_list))))))) pss_nil)
    (pss_cons (ps_if (pt_cmpR op_gt (pe_ix ix_list (pv 0) pe_int (fun _ _ => rfl)) pe_int (nomark _)) (pss_cons (ps_set (i := 3) sc__law_take.nd rfl (Or.inl rfl) (pe_op op_mod (pe_callTy c_int (by rfl) T.m_int (by decide +kernel) (pa_cons (pe_ix ix_list (pv 0) pe_int (fun _ _ => rfl)) pa_nil)) (pv 1)))
    (pss_cons (ps_asg (pe_op op_fdiv (pe_ix ix_list (pv 0) pe_int (fun _ _ => rfl)) (pv 1)) (pg_sub (pv 0) pe_int set_list))
    (pss_one (ps_ret (pv 3))))) pss_nil)
    (pss_cons (ps_asg (pe_op op_add (pe_ix ix_list (pv 0) pe_int (fun _ _ => rfl)) pe_int) (pg_sub (pv 0) pe_int set_list))
    (pss_one (ps_ret (pe_op op_mod (pe_callTy c_int (by rfl) T.m_int (by decide +kernel) (pa_cons (pe_cl c__law_mixed (hr.mono (by decide)) (by rfl) pass0 (pa_cons (pe_ix ix_list (pv 0) pe_int (fun _ _ => rfl)) (pa_cons (pe_ix ix_list (pv 0) pe_int (fun _ _ => rfl)) pa_nil))) pa_nil)) (pv 1)))))))) hp
theorem sc__law_agree : FnScope N__law_agree ["_law_below_here", "_law_first", "_law_second_here"] (defScope (top 65)) := ⟨rfl, rfl, rfl, by decide +kernel, rfl, by decide +kernel, by decide +kernel⟩
theorem ok__law_agree {P : Program} {w : World} {K : PySem.W.Frag} {mg : Str → Option Value} {base : Heap} {cH cHE : Addr} (T : Txt K mg cH cHE) (D : Def K mg 65 "_law_agree") (c__law_apart : Cal P w K mg base CX0 1 "_law_apart" ["_law_below_here", "_law_one", "_law_two"] (sp__law_apart K))
    (hp : ∀ vs H Q E, sp__law_agree K vs H Q E → vs.length = 3 ∧ t__law_agree K { nx := fun _ H' => Q .non H', rt := Q } (start N__law_agree vs) H) :
    Cal P w K mg base CX0 2 "_law_agree" ["_law_below_here", "_law_first", "_law_second_here"] (sp__law_agree K) :=
  cal_mk (t__law_agree K) D sc__law_agree (fun _ _ _ _ _ _ us hl => match us, hl with | [_, _, _], _ => rfl) (fun f cdv A outer s H E hr => (pss_cons (ps_for PassesOwn.never rfl (pi_range1 rfl T.m_range (pa_cons (pe_callB c_len (by rfl) T.m_len (by decide +kernel) (pa_cons (pv 0) pa_nil)) pa_nil)) (pg_name (i := 3) sc__law_agree.nd rfl (Or.inr rfl))
    (pss_one (ps_for PassesOwn.never rfl (pi_range1 rfl T.m_range (pa_cons (pe_op op_add (pv 3) pe_int) pa_nil)) (pg_name (i := 4) sc__law_agree.nd rfl (Or.inr rfl))
    (pss_one (ps_if (pt_not (pt_val (pe_cl c__law_apart (hr.mono (by decide)) (by rfl) pass0 (pa_cons (pv 0) (pa_cons (pv 3) (pa_cons (pv 4) pa_nil)))))) (pss_cons (ps_setLc (i := 5) (own := [("_law_lamp", 6)]) rfl sc__law_agree.nd rfl rfl (sw_true rfl rfl rfl (by decide +kernel)) (pi_list (pv 1)) (blkOk_by (own := [("_law_lamp", 6)]) (N := N__law_agree) (sc := (defScope (top 65))) (by decide +kernel)) (fun _ _ _ _ _ => (pg_name (i := 6) sc__law_agree.nd rfl (Or.inl rfl))) (fun _ _ _ _ _ => (pts_one (pt_cmpR op_in_seq (pv 6) (pe_tup (pa_cons (pv 3) (pa_cons (pv 4) pa_nil))) (by rfl)))) (fun _ _ _ _ _ => (pv 6)))
    (pss_one (ps_if (pt_cmpR (op_neD hr.units) (pv 5) (pe_lc (own := [("_law_lamp", 6)]) rfl sc__law_agree.nd (pi_list (pv 2)) (blkOk_by (own := [("_law_lamp", 6)]) (N := N__law_agree) (sc := (defScope (top 65))) (by decide +kernel)) (fun _ _ _ _ _ => (pg_name (i := 6) sc__law_agree.nd rfl (Or.inl rfl))) (fun _ _ _ _ _ => (pts_one (pt_cmpR op_in_seq (pv 6) (pe_tup (pa_cons (pv 3) (pa_cons (pv 4) pa_nil))) (by rfl)))) (fun _ _ _ _ _ => (pv 6))) (nomark _)) (pss_one (ps_ret pe_bl)) pss_nil))) pss_nil)))))
    (pss_one (ps_ret pe_bl)))) hp
theorem sc__law_second : FnScope N__law_second ["_law_box_here", "_law_plan_here"] (defScope (top 57)) := ⟨rfl, rfl, rfl, by decide +kernel, rfl, by decide +kernel, by decide +kernel⟩
theorem ok__law_second {P : Program} {w : World} {K : PySem.W.Frag} {mg : Str → Option Value} {base : Heap} {cH cHE : Addr} (T : Txt K mg cH cHE) (D : Def K mg 57 "_law_second") (c__law_plan : Cal P w K mg base CX0 4 "_law_plan" ["_law_box_here"] (sp__law_plan K)) (c__law_take : Cal P w K mg base CX0 2 "_law_take" ["_law_box_here", "_law_many"] (sp__law_take K))
    (hp : ∀ vs H Q E, sp__law_second K vs H Q E → vs.length = 2 ∧ t__law_second K { nx := fun _ H' => Q .non H', rt := Q } (start N__law_second vs) H) :
    Cal P w K mg base CX0 5 "_law_second" ["_law_box_here", "_law_plan_here"] (sp__law_second K) :=
  cal_mk (t__law_second K) D sc__law_second (fun _ _ _ _ _ _ us hl => match us, hl with | [_, _], _ => rfl) (fun f cdv A outer s H E hr => (pss_cons (ps_if (pt_cmpR op_eq (pe_cl c__law_take (hr.mono (by decide)) (by rfl) pass0 (pa_cons (pv 0) (pa_cons pe_int pa_nil))) pe_int (nomark _)) (pss_one (ps_ret (pe_cl c__law_plan (hr.mono (by decide)) (by rfl) pass0 (pa_cons (pv 0) pa_nil)))) pss_nil)
    (pss_cons (ps_set (i := 2) sc__law_second.nd rfl (Or.inl rfl) (pe_cl c__law_take (hr.mono (by decide)) (by rfl) pass0 (pa_cons (pv 0) (pa_cons (pe_callB (c_max rfl) (by rfl) T.m_max (by decide +kernel) (pa_cons pe_int (pa_cons (pe_callB c_len (by rfl) T.m_len (by decide +kernel) (pa_cons (pe_ix ix_tup (pv 1) pe_int (fun _ _ => rfl)) pa_nil)) pa_nil))) pa_nil))))
    (pss_one (ps_ret (pe_tup (pa_cons (pe_ix ix_tup (pv 1) pe_int (fun _ _ => rfl)) (pa_cons (pe_ix ix_tup (pv 1) pe_int (fun _ _ => rfl)) (pa_cons (pe_op op_cat (pe_slice sl_list (pe_ix ix_tup (pv 1) pe_int (fun _ _ => rfl)) po_none (po_some (pv 2))) (pe_slice sl_list (pe_ix ix_tup (pv 1) pe_int (fun _ _ => rfl)) (po_some (pe_op op_add (pv 2) pe_int)) po_none)) (pa_cons (pe_ix ix_tup (pv 1) pe_int (fun _ _ => rfl)) pa_nil)))))))))) hp
theorem sc__law_rows : FnScope N__law_rows ["_law_told", "_law_due"] (defScope (top 69)) := ⟨rfl, rfl, rfl, by decide +kernel, rfl, by decide +kernel, by decide +kernel⟩
theorem ok__law_rows {P : Program} {w : World} {K : PySem.W.Frag} {mg : Str → Option Value} {base : Heap} {cH cHE : Addr} (T : Txt K mg cH cHE) (D : Def K mg 69 "_law_rows") (c__law_listed : Cal P w K mg base CX0 1 "_law_listed" ["_law_told", "_law_due"] (sp__law_listed K))
    (hp : ∀ vs H Q E, sp__law_rows K vs H Q E → vs.length = 2 ∧ t__law_rows K { nx := fun _ H' => Q .non H', rt := Q } (start N__law_rows vs) H) :
    Cal P w K mg base CX0 2 "_law_rows" ["_law_told", "_law_due"] (sp__law_rows K) :=
  cal_mk (t__law_rows K) D sc__law_rows (fun _ _ _ _ _ _ us hl => match us, hl with | [_, _], _ => rfl) (fun f cdv A outer s H E hr => (pss_cons (ps_if (PW.pt (pw_or (pt_not (pt_val (pe_callB call_isi (by rfl) T.m_isinstance (by decide +kernel) (pa_cons (pv 0) (pa_cons (pe_bltn (v := .ty "list") (by rfl) T.m_list (by decide +kernel) rfl) pa_nil))))) (pw_or1 (pt_cmpR op_ne (pe_callB c_len (by rfl) T.m_len (by decide +kernel) (pa_cons (pv 0) pa_nil)) (pe_callB c_len (by rfl) T.m_len (by decide +kernel) (pa_cons (pv 1) pa_nil)) (nomark _))))) (pss_one (ps_ret pe_bl)) pss_nil)
    (pss_cons (ps_for PassesOwn.never rfl (pi_range1 rfl T.m_range (pa_cons (pe_callB c_len (by rfl) T.m_len (by decide +kernel) (pa_cons (pv 1) pa_nil)) pa_nil)) (pg_name (i := 2) sc__law_rows.nd rfl (Or.inl rfl))
    (pss_one (ps_if (pt_not (pt_val (pe_cl c__law_listed (hr.mono (by decide)) (by rfl) pass0 (pa_cons (pe_ix ix_list (pv 0) (pv 2) (fun _ _ => rfl)) (pa_cons (pe_ix ix_list (pv 1) (pv 2) (fun _ _ => rfl)) pa_nil))))) (pss_one (ps_ret pe_bl)) pss_nil)))
    (pss_one (ps_ret pe_bl))))) hp
theorem sc__turn_round : FnScope N__turn_round ["below"] (defScope (top 18)) := ⟨rfl, rfl, rfl, by decide +kernel, rfl, by decide +kernel, by decide +kernel⟩
theorem ok__turn_round {P : Program} {w : World} {K : PySem.W.Frag} {mg : Str → Option Value} {base : Heap} {cH cHE : Addr} (T : Txt K mg cH cHE) (D : Def K mg 18 "_turn_round") (c_bits : Cal P w K mg base CX0 1 "bits" ["mask"] (sp_bits K))
    (hp : ∀ vs H Q E, sp__turn_round K vs H Q E → vs.length = 1 ∧ t__turn_round K { nx := fun _ H' => Q .non H', rt := Q } (start N__turn_round vs) H) :
    Cal P w K mg base CX0 2 "_turn_round" ["below"] (sp__turn_round K) :=
  cal_mk (t__turn_round K) D sc__turn_round (fun _ _ _ _ _ _ us hl => match us, hl with | [_], _ => rfl) (fun f cdv A outer s H E hr => (pss_cons (ps_set (i := 1) sc__turn_round.nd rfl (Or.inl rfl) (pe_op op_rep (pe_lst (pa_cons pe_int pa_nil)) (pe_callB c_len (by rfl) T.m_len (by decide +kernel) (pa_cons (pv 0) pa_nil))))
    (pss_cons (ps_for PassesOwn.never rfl (pi_enum (by rfl) T.m_enumerate (pa_cons (pv 0) pa_nil)) (pg_tup rfl (pgs_cons (pg_name (i := 2) sc__turn_round.nd rfl (Or.inl rfl)) (pgs_cons (pg_name (i := 3) sc__turn_round.nd rfl (Or.inl rfl)) pgs_nil)))
    (pss_one (ps_for PassesOwn.never rfl (pi_list (pe_cl c_bits (hr.mono (by decide)) (by rfl) pass0 (pa_cons (pv 3) pa_nil))) (pg_name (i := 4) sc__turn_round.nd rfl (Or.inl rfl))
    (pss_one (ps_asg (pe_op op_or (pe_ix ix_list (pv 1) (pv 4) (fun _ _ => rfl)) (pe_op op_shl pe_int (pv 2))) (pg_sub (pv 1) (pv 4) set_list))))))
    (pss_one (ps_ret (pv 1)))))) hp
theorem sc__law_box : FnScope N__law_box ["_law_script"] (defScope (top 45)) := ⟨rfl, rfl, rfl, by decide +kernel, rfl, by decide +kernel, by decide +kernel⟩
theorem ok__law_box {P : Program} {w : World} {K : PySem.W.Frag} {mg : Str → Option Value} {base : Heap} {cH cHE : Addr} (T : Txt K mg cH cHE) (D : Def K mg 45 "_law_box") 
    (hp : ∀ vs H Q E, sp__law_box K vs H Q E → vs.length = 1 ∧ t__law_box K { nx := fun _ H' => Q .non H', rt := Q } (start N__law_box vs) H) :
    Cal P w K mg base CX0 1 "_law_box" ["_law_script"] (sp__law_box K) :=
  cal_mk (t__law_box K) D sc__law_box (fun _ _ _ _ _ _ us hl => match us, hl with | [_], _ => rfl) (fun f cdv A outer s H E hr => (pss_one (ps_ret (pe_op op_cat (pe_lst (pa_cons pe_int (pa_cons pe_int (pa_cons pe_int (pa_cons pe_int pa_nil))))) (pe_lc (own := [("_law_cell", 1)]) rfl sc__law_box.nd (pi_list (pe_slice sl_list (pv 0) po_none (po_some pe_int))) (blkOk_by (own := [("_law_cell", 1)]) (N := N__law_box) (sc := (defScope (top 45))) (by decide +kernel)) (fun _ _ _ _ _ => (pg_name (i := 1) sc__law_box.nd rfl (Or.inl rfl))) (fun _ _ _ _ _ => pts_nil) (fun _ _ _ _ _ => (pe_callTy c_int (by rfl) T.m_int (by decide +kernel) (pa_cons (pv 1) pa_nil)))))))) hp
theorem sc__law_apart : FnScope N__law_apart ["_law_below_here", "_law_one", "_law_two"] (defScope (top 62)) := ⟨rfl, rfl, rfl, by decide +kernel, rfl, by decide +kernel, by decide +kernel⟩
theorem ok__law_apart {P : Program} {w : World} {K : PySem.W.Frag} {mg : Str → Option Value} {base : Heap} {cH cHE : Addr} (T : Txt K mg cH cHE) (D : Def K mg 62 "_law_apart") 
    (hp : ∀ vs H Q E, sp__law_apart K vs H Q E → vs.length = 3 ∧ t__law_apart K { nx := fun _ H' => Q .non H', rt := Q } (start N__law_apart vs) H) :
    Cal P w K mg base CX0 1 "_law_apart" ["_law_below_here", "_law_one", "_law_two"] (sp__law_apart K) :=
  cal_mk (t__law_apart K) D sc__law_apart (fun _ _ _ _ _ _ us hl => match us, hl with | [_, _, _], _ => rfl) (fun f cdv A outer s H E hr => (pss_one (ps_ret (pe_and (pe_cmpR op_ne (pv 1) (pv 2) (nomark _)) (pe_and (pe_cmpR op_notIn_seq (pv 2) (pe_ix ix_list (pv 0) (pv 1) (fun _ _ => rfl)) (by rfl)) (pe_one (pe_cmpR op_notIn_seq (pv 1) (pe_ix ix_list (pv 0) (pv 2) (fun _ _ => rfl)) (by rfl)))))))) hp
end Hue
end
section
set_option maxHeartbeats 4000000
namespace Hue
open PySem PySem.Spec PyProof.Rows L2
theorem sc__law_sorted : FnScope N__law_sorted ["_law_below_here", "_law_lamps_here"] (defScope (top 66)) := ⟨rfl, rfl, rfl, by decide +kernel, rfl, by decide +kernel, by decide +kernel⟩
theorem ok__law_sorted {P : Program} {w : World} {K : PySem.W.Frag} {mg : Str → Option Value} {base : Heap} {cH cHE : Addr} (T : Txt K mg cH cHE) (D : Def K mg 66 "_law_sorted") (c__law_apart : Cal P w K mg base CX0 1 "_law_apart" ["_law_below_here", "_law_one", "_law_two"] (sp__law_apart K))
    (hp : ∀ vs H Q E, sp__law_sorted K vs H Q E → vs.length = 2 ∧ t__law_sorted K { nx := fun _ H' => Q .non H', rt := Q } (start N__law_sorted vs) H) :
    Cal P w K mg base CX0 2 "_law_sorted" ["_law_below_here", "_law_lamps_here"] (sp__law_sorted K) :=
  cal_mk (t__law_sorted K) D sc__law_sorted (fun _ _ _ _ _ _ us hl => match us, hl with | [_, _], _ => rfl) (fun f cdv A outer s H E hr => (pss_cons (ps_set (i := 2) sc__law_sorted.nd rfl (Or.inl rfl) (pe_callTy c_list (by rfl) T.m_list (by decide +kernel) (pa_cons (pv 1) pa_nil)))
    (pss_cons (ps_set (i := 3) sc__law_sorted.nd rfl (Or.inl rfl) (pe_lst pa_nil))
    (pss_cons (ps_for PassesOwn.never rfl (pi_range1 rfl T.m_range (pa_cons (pe_callB c_len (by rfl) T.m_len (by decide +kernel) (pa_cons (pv 1) pa_nil)) pa_nil)) (pg_name (i := 4) sc__law_sorted.nd rfl (Or.inl rfl))
    (pss_cons (ps_setLc (i := 6) (own := [("_law_lamp", 5)]) rfl sc__law_sorted.nd rfl rfl (sw_true rfl rfl rfl (by decide +kernel)) (pi_list (pv 0)) (blkOk_by (own := [("_law_lamp", 5)]) (N := N__law_sorted) (sc := (defScope (top 66))) (by decide +kernel)) (fun _ _ _ _ _ => (pg_name (i := 5) sc__law_sorted.nd rfl (Or.inl rfl))) (fun _ _ _ _ _ => pts_nil) (fun _ _ _ _ _ => pe_bl))
    (pss_cons (ps_set (i := 7) sc__law_sorted.nd rfl (Or.inl rfl) (pe_un un_neg pe_int))
    (pss_cons (ps_for PassesOwn.never rfl (pi_range1 rfl T.m_range (pa_cons (pe_callB c_len (by rfl) T.m_len (by decide +kernel) (pa_cons (pv 2) pa_nil)) pa_nil)) (pg_name (i := 8) sc__law_sorted.nd rfl (Or.inl rfl))
    (pss_cons (ps_if (PW.pt (pw_and (pt_val (pe_ix ix_list (pv 6) (pe_ix ix_list (pv 2) (pv 8) (fun _ _ => rfl)) (fun _ _ => rfl))) (pw_and1 (PW.pt (pw_or (pt_cmpR op_lt (pv 7) pe_int (nomark _)) (pw_or1 (pt_cmpR op_lt (pe_ix ix_list (pv 2) (pv 8) (fun _ _ => rfl)) (pe_ix ix_list (pv 2) (pv 7) (fun _ _ => rfl)) (nomark _)))))))) (pss_one (ps_set (i := 7) sc__law_sorted.nd rfl (Or.inl rfl) (pv 8))) pss_nil)
    (pss_one (ps_for PassesOwn.never rfl (pi_range1 rfl T.m_range (pa_cons (pe_callB c_len (by rfl) T.m_len (by decide +kernel) (pa_cons (pv 0) pa_nil)) pa_nil)) (pg_name (i := 5) sc__law_sorted.nd rfl (Or.inl rfl))
    (pss_one (ps_if (pt_not (pt_val (pe_cl c__law_apart (hr.mono (by decide)) (by rfl) pass0 (pa_cons (pv 0) (pa_cons (pe_ix ix_list (pv 2) (pv 8) (fun _ _ => rfl)) (pa_cons (pv 5) pa_nil)))))) (pss_one (ps_asg pe_bl (pg_sub (pv 6) (pv 5) set_list))) pss_nil))))))
    (pss_cons (ps_expr (pe_bm PySem.F.plainAttrs_list PySem.F.slot_list_append PySem.F.type_list_append mt_append (pv 3) (pa_cons (pe_ix ix_list (pv 2) (pv 7) (fun _ _ => rfl)) pa_nil)))
    (pss_one (ps_set (i := 2) sc__law_sorted.nd rfl (Or.inl rfl) (pe_op op_cat (pe_slice sl_list (pv 2) po_none (po_some (pv 7))) (pe_slice sl_list (pv 2) (po_some (pe_op op_add (pv 7) pe_int)) po_none)))))))))
    (pss_one (ps_ret (pv 3))))))) hp
theorem sc__law_pair : FnScope N__law_pair ["_law_house_here", "_law_first", "_law_second_here", "_law_due"] (defScope (top 72)) := ⟨rfl, rfl, rfl, by decide +kernel, rfl, by decide +kernel, by decide +kernel⟩
theorem ok__law_pair {P : Program} {w : World} {K : PySem.W.Frag} {mg : Str → Option Value} {base : Heap} {cH cHE : Addr} (T : Txt K mg cH cHE) (D : Def K mg 72 "_law_pair") (c_is_swap : Cal P w K mg base (L2.CX P w) 7 "is_swap" ["house", "first", "second"] (sp_is_swap K)) (c_sorted_form : Cal P w K mg base (L2.CX P w) 6 "sorted_form" ["house", "run"] (sp_sorted_form K))
    (hp : ∀ vs H Q E, sp__law_pair K vs H Q E → vs.length = 4 ∧ t__law_pair K { nx := fun _ H' => Q .non H', rt := Q } (start N__law_pair vs) H) :
    Cal P w K mg base CX0 8 "_law_pair" ["_law_house_here", "_law_first", "_law_second_here", "_law_due"] (sp__law_pair K) :=
  cal_mk (t__law_pair K) D sc__law_pair (fun _ _ _ _ _ _ us hl => match us, hl with | [_, _, _, _], _ => rfl) (fun f cdv A outer s H E hr => (pss_cons (ps_set (i := 4) sc__law_pair.nd rfl (Or.inl rfl) (pe_callTy c_list (by rfl) T.m_list (by decide +kernel) (pa_cons (pv 1) pa_nil)))
    (pss_cons (ps_set (i := 5) sc__law_pair.nd rfl (Or.inl rfl) (pe_callTy c_list (by rfl) T.m_list (by decide +kernel) (pa_cons (pv 2) pa_nil)))
    (pss_cons (ps_set (i := 6) sc__law_pair.nd rfl (Or.inl rfl) (pe_cl c_is_swap (hr.mono (by decide)) (by rfl) passL (pa_cons (pv 0) (pa_cons (pv 4) (pa_cons (pv 5) pa_nil)))))
    (pss_cons (ps_set (i := 7) sc__law_pair.nd rfl (Or.inl rfl) (pe_cl c_is_swap (hr.mono (by decide)) (by rfl) passL (pa_cons (pv 0) (pa_cons (pv 5) (pa_cons (pv 4) pa_nil)))))
    (pss_cons (ps_if (PW.pt (pw_or (pt_not (pt_val (pe_callB call_isi (by rfl) T.m_isinstance (by decide +kernel) (pa_cons (pv 6) (pa_cons (pe_bltn (v := .ty "bool") (by rfl) T.m_bool (by decide +kernel) rfl) pa_nil))))) (pw_or (pt_not (pt_val (pe_callB call_isi (by rfl) T.m_isinstance (by decide +kernel) (pa_cons (pv 7) (pa_cons (pe_bltn (v := .ty "bool") (by rfl) T.m_bool (by decide +kernel) rfl) pa_nil))))) (pw_or (pt_cmpR op_ne (pv 6) (pv 3) (nomark _)) (pw_or1 (pt_cmpR op_ne (pv 7) (pv 3) (nomark _))))))) (pss_one (ps_ret pe_bl)) pss_nil)
    (pss_cons (ps_if (pt_cmpR op_ne (pe_cmpR (op_eqD hr.units) (pe_cl c_sorted_form (hr.mono (by decide)) (by rfl) passL (pa_cons (pv 0) (pa_cons (pv 4) pa_nil))) (pe_cl c_sorted_form (hr.mono (by decide)) (by rfl) passL (pa_cons (pv 0) (pa_cons (pv 5) pa_nil))) (nomark _)) (pv 3) (nomark _)) (pss_one (ps_ret pe_bl)) pss_nil)
    (pss_one (ps_ret (pe_and (pe_cmpR (op_eqD hr.units) (pv 4) (pv 1) (nomark _)) (pe_one (pe_cmpR (op_eqD hr.units) (pv 5) (pv 2) (nomark _))))))))))))) hp
theorem sc__law_plan : FnScope N__law_plan ["_law_box_here"] (defScope (top 56)) := ⟨rfl, rfl, rfl, by decide +kernel, rfl, by decide +kernel, by decide +kernel⟩
theorem ok__law_plan {P : Program} {w : World} {K : PySem.W.Frag} {mg : Str → Option Value} {base : Heap} {cH cHE : Addr} (T : Txt K mg cH cHE) (D : Def K mg 56 "_law_plan") (c__law_line : Cal P w K mg base CX0 3 "_law_line" ["_law_box_here", "_law_count"] (sp__law_line K)) (c__law_state : Cal P w K mg base CX0 3 "_law_state" ["_law_box_here", "_law_count", "_law_hues"] (sp__law_state K)) (c__law_take : Cal P w K mg base CX0 2 "_law_take" ["_law_box_here", "_law_many"] (sp__law_take K)) (c__law_wires : Cal P w K mg base CX0 3 "_law_wires" ["_law_box_here", "_law_line_here"] (sp__law_wires K))
    (hp : ∀ vs H Q E, sp__law_plan K vs H Q E → vs.length = 1 ∧ t__law_plan K { nx := fun _ H' => Q .non H', rt := Q } (start N__law_plan vs) H) :
    Cal P w K mg base CX0 4 "_law_plan" ["_law_box_here"] (sp__law_plan K) :=
  cal_mk (t__law_plan K) D sc__law_plan (fun _ _ _ _ _ _ us hl => match us, hl with | [_], _ => rfl) (fun f cdv A outer s H E hr => (pss_cons (ps_set (i := 1) sc__law_plan.nd rfl (Or.inl rfl) (pe_op op_add pe_int (pe_cl c__law_take (hr.mono (by decide)) (by rfl) pass0 (pa_cons (pv 0) (pa_cons (pe_ifExp (pt_cmpR op_eq (pe_cl c__law_take (hr.mono (by decide)) (by rfl) pass0 (pa_cons (pv 0) (pa_cons pe_int pa_nil))) pe_int (nomark _)) pe_int pe_int) pa_nil)))))
    (pss_cons (ps_set (i := 2) sc__law_plan.nd rfl (Or.inl rfl) (pe_op op_add pe_int (pe_cl c__law_take (hr.mono (by decide)) (by rfl) pass0 (pa_cons (pv 0) (pa_cons (pe_ifExp (pt_cmpR op_eq (pe_cl c__law_take (hr.mono (by decide)) (by rfl) pass0 (pa_cons (pv 0) (pa_cons pe_int pa_nil))) pe_int (nomark _)) pe_int pe_int) pa_nil)))))
    (pss_cons (ps_set (i := 3) sc__law_plan.nd rfl (Or.inl rfl) (pe_cl c__law_line (hr.mono (by decide)) (by rfl) pass0 (pa_cons (pv 0) (pa_cons (pv 1) pa_nil))))
    (pss_cons (ps_set (i := 4) sc__law_plan.nd rfl (Or.inl rfl) (pe_cl c__law_wires (hr.mono (by decide)) (by rfl) pass0 (pa_cons (pv 0) (pa_cons (pv 3) pa_nil))))
    (pss_one (ps_ret (pe_tup (pa_cons (pv 2) (pa_cons (pv 3) (pa_cons (pv 4) (pa_cons (pe_cl c__law_state (hr.mono (by decide)) (by rfl) pass0 (pa_cons (pv 0) (pa_cons (pv 1) (pa_cons (pv 2) pa_nil)))) pa_nil)))))))))))) hp
theorem sc__law_neighbours : FnScope N__law_neighbours ["_law_below_here", "_law_lamps_here"] (defScope (top 63)) := ⟨rfl, rfl, rfl, by decide +kernel, rfl, by decide +kernel, by decide +kernel⟩
theorem ok__law_neighbours {P : Program} {w : World} {K : PySem.W.Frag} {mg : Str → Option Value} {base : Heap} {cH cHE : Addr} (T : Txt K mg cH cHE) (D : Def K mg 63 "_law_neighbours") (c__law_apart : Cal P w K mg base CX0 1 "_law_apart" ["_law_below_here", "_law_one", "_law_two"] (sp__law_apart K))
    (hp : ∀ vs H Q E, sp__law_neighbours K vs H Q E → vs.length = 2 ∧ t__law_neighbours K { nx := fun _ H' => Q .non H', rt := Q } (start N__law_neighbours vs) H) :
    Cal P w K mg base CX0 2 "_law_neighbours" ["_law_below_here", "_law_lamps_here"] (sp__law_neighbours K) :=
  cal_mk (t__law_neighbours K) D sc__law_neighbours (fun _ _ _ _ _ _ us hl => match us, hl with | [_, _], _ => rfl) (fun f cdv A outer s H E hr => (pss_cons (ps_set (i := 2) sc__law_neighbours.nd rfl (Or.inl rfl) (pe_lst pa_nil))
    (pss_cons (ps_for PassesOwn.never rfl (pi_range1 rfl T.m_range (pa_cons (pe_op op_sub (pe_callB c_len (by rfl) T.m_len (by decide +kernel) (pa_cons (pv 1) pa_nil)) pe_int) pa_nil)) (pg_name (i := 3) sc__law_neighbours.nd rfl (Or.inl rfl))
    (pss_one (ps_if (pt_val (pe_cl c__law_apart (hr.mono (by decide)) (by rfl) pass0 (pa_cons (pv 0) (pa_cons (pe_ix ix_list (pv 1) (pv 3) (fun _ _ => rfl)) (pa_cons (pe_ix ix_list (pv 1) (pe_op op_add (pv 3) pe_int) (fun _ _ => rfl)) pa_nil))))) (pss_one (ps_expr (pe_bm PySem.F.plainAttrs_list PySem.F.slot_list_append PySem.F.type_list_append mt_append (pv 2) (pa_cons (pe_op op_cat (pe_op op_cat (pe_slice sl_list (pv 1) po_none (po_some (pv 3))) (pe_lst (pa_cons (pe_ix ix_list (pv 1) (pe_op op_add (pv 3) pe_int) (fun _ _ => rfl)) (pa_cons (pe_ix ix_list (pv 1) (pv 3) (fun _ _ => rfl)) pa_nil)))) (pe_slice sl_list (pv 1) (po_some (pe_op op_add (pv 3) pe_int)) po_none)) pa_nil)))) pss_nil)))
    (pss_one (ps_ret (pv 2)))))) hp
theorem sc__law_world : FnScope N__law_world ["_law_box_here", "_law_plan_here"] (defScope (top 58)) := ⟨rfl, rfl, rfl, by decide +kernel, rfl, by decide +kernel, by decide +kernel⟩
theorem ok__law_world {P : Program} {w : World} {K : PySem.W.Frag} {mg : Str → Option Value} {base : Heap} {cH cHE : Addr} (T : Txt K mg cH cHE) (D : Def K mg 58 "_law_world") (c__law_below : Cal P w K mg base CX0 1 "_law_below" ["_law_line_here", "_law_wires_here"] (sp__law_below K)) (c__law_house : Cal P w K mg base CX0 6 "_law_house" ["_law_box_here", "_law_count", "_law_hues", "_law_wires_here"] (sp__law_house K))
    (hp : ∀ vs H Q E, sp__law_world K vs H Q E → vs.length = 2 ∧ t__law_world K { nx := fun _ H' => Q .non H', rt := Q } (start N__law_world vs) H) :
    Cal P w K mg base CX0 7 "_law_world" ["_law_box_here", "_law_plan_here"] (sp__law_world K) :=
  cal_mk (t__law_world K) D sc__law_world (fun _ _ _ _ _ _ us hl => match us, hl with | [_, _], _ => rfl) (fun f cdv A outer s H E hr => (pss_cons (ps_set (i := 2) sc__law_world.nd rfl (Or.inl rfl) (pe_cl c__law_house (hr.mono (by decide)) (by rfl) pass0 (pa_cons (pv 0) (pa_cons (pe_callB c_len (by rfl) T.m_len (by decide +kernel) (pa_cons (pe_ix ix_tup (pv 1) pe_int (fun _ _ => rfl)) pa_nil)) (pa_cons (pe_ix ix_tup (pv 1) pe_int (fun _ _ => rfl)) (pa_cons (pe_ix ix_tup (pv 1) pe_int (fun _ _ => rfl)) pa_nil))))))
    (pss_one (ps_ret (pe_tup (pa_cons (pv 2) (pa_cons (pe_ix ix_tup (pv 1) pe_int (fun _ _ => rfl)) (pa_cons (pe_cl c__law_below (hr.mono (by decide)) (by rfl) pass0 (pa_cons (pe_ix ix_tup (pv 1) pe_int (fun _ _ => rfl)) (pa_cons (pe_ix ix_tup (pv 1) pe_int (fun _ _ => rfl)) pa_nil))) (pa_cons (pe_ix ix_tup (pv 1) pe_int (fun _ _ => rfl)) pa_nil))))))))) hp
theorem sc__law_odd_lamp : FnScope N__law_odd_lamp ["_law_box_here", "_law_count"] (defScope (top 59)) := ⟨rfl, rfl, rfl, by decide +kernel, rfl, by decide +kernel, by decide +kernel⟩
theorem ok__law_odd_lamp {P : Program} {w : World} {K : PySem.W.Frag} {mg : Str → Option Value} {base : Heap} {cH cHE : Addr} (T : Txt K mg cH cHE) (D : Def K mg 59 "_law_odd_lamp") (c__law_take : Cal P w K mg base CX0 2 "_law_take" ["_law_box_here", "_law_many"] (sp__law_take K))
    (hp : ∀ vs H Q E, sp__law_odd_lamp K vs H Q E → vs.length = 2 ∧ t__law_odd_lamp K { nx := fun _ H' => Q .non H', rt := Q } (start N__law_odd_lamp vs) H) :
    Cal P w K mg base CX0 3 "_law_odd_lamp" ["_law_box_here", "_law_count"] (sp__law_odd_lamp K) :=
  cal_mk (t__law_odd_lamp K) D sc__law_odd_lamp (fun _ _ _ _ _ _ us hl => match us, hl with | [_, _], _ => rfl) (fun f cdv A outer s H E hr => (pss_cons (ps_set (i := 2) sc__law_odd_lamp.nd rfl (Or.inl rfl) (pe_cl c__law_take (hr.mono (by decide)) (by rfl) pass0 (pa_cons (pv 0) (pa_cons pe_int pa_nil))))
    (pss_cons (ps_if (pt_cmpR op_eq (pv 2) pe_int (nomark _)) (pss_one (ps_ret (pe_op op_add (pe_op op_add (pv 1) pe_int) (pe_cl c__law_take (hr.mono (by decide)) (by rfl) pass0 (pa_cons (pv 0) (pa_cons pe_int pa_nil)))))) pss_nil)
    (pss_one (ps_ret (pe_ix ix_list (pe_lst (pa_cons (pv 1) (pa_cons (pe_un un_neg pe_int) (pa_cons (pe_un un_neg pe_int) (pa_cons pe_bl (pa_cons pe_bl (pa_cons pe_non (pa_cons pe_str (pa_cons (pe_tup (pa_cons pe_int pa_nil)) pa_nil))))))))) (pv 2) (fun _ _ => rfl))))))) hp
theorem sc_can_move : FnScope N_can_move ["house", "state", "lamp", "careful"] (defScope (top 31)) := ⟨rfl, rfl, rfl, by decide +kernel, rfl, by decide +kernel, by decide +kernel⟩
theorem ok_can_move {P : Program} {w : World} {K : PySem.W.Frag} {mg : Str → Option Value} {base : Heap} {cH cHE : Addr} (T : Txt K mg cH cHE) (D : Def K mg 31 "can_move") (c_lit_beneath : Cal P w K mg base CX0 2 "lit_beneath" ["house", "state", "lamp"] (sp_lit_beneath K))
    (hp : ∀ vs H Q E, sp_can_move K vs H Q E → vs.length = 4 ∧ t_can_move K { nx := fun _ H' => Q .non H', rt := Q } (start N_can_move vs) H) :
    Cal P w K mg base CX0 3 "can_move" ["house", "state", "lamp", "careful"] (sp_can_move K) :=
  cal_mk (t_can_move K) D sc_can_move (fun _ _ _ _ _ _ us hl => match us, hl with | [_, _, _, _], _ => rfl) (fun f cdv A outer s H E hr => (pss_cons (ps_if (pt_cmpR op_eq (pe_ix ix_tup (pv 1) (pv 2) (fun _ _ => rfl)) pe_int (nomark _)) (pss_one (ps_ret pe_bl)) pss_nil)
    (pss_one (ps_ret (pe_or (pe_not (pv 3)) (pe_one (pe_cmpR op_isN (pe_cl c_lit_beneath (hr.mono (by decide)) (by rfl) pass0 (pa_cons (pv 0) (pa_cons (pv 1) (pa_cons (pv 2) pa_nil)))) pe_non (nomark _)))))))) hp
theorem sc_need_state : FnScope N_need_state ["house", "value"] (defScope (top 26)) := ⟨rfl, rfl, rfl, by decide +kernel, rfl, by decide +kernel, by decide +kernel⟩
theorem ok_need_state {P : Program} {w : World} {K : PySem.W.Frag} {mg : Str → Option Value} {base : Heap} {cH cHE : Addr} (T : Txt K mg cH cHE) (D : Def K mg 26 "need_state") (c_is_state : Cal P w K mg base CX0 2 "is_state" ["house", "value"] (sp_is_state K))
    (hp : ∀ vs H Q E, sp_need_state K vs H Q E → vs.length = 2 ∧ t_need_state K { nx := fun _ H' => Q .non H', rt := Q } (start N_need_state vs) H) :
    Cal P w K mg base CX0 3 "need_state" ["house", "value"] (sp_need_state K) :=
  cal_mk (t_need_state K) D sc_need_state (fun _ _ _ _ _ _ us hl => match us, hl with | [_, _], _ => rfl) (fun f cdv A outer s H E hr => (pss_one (ps_if (pt_not (pt_val (pe_cl c_is_state (hr.mono (by decide)) (by rfl) pass0 (pa_cons (pv 0) (pa_cons (pv 1) pa_nil))))) pss_never pss_nil))) hp
end Hue
end
section
set_option maxHeartbeats 4000000
namespace Hue
open PySem PySem.Spec PyProof.Rows L2
theorem sc__law_wires : FnScope N__law_wires ["_law_box_here", "_law_line_here"] (defScope (top 49)) := ⟨rfl, rfl, rfl, by decide +kernel, rfl, by decide +kernel, by decide +kernel⟩
theorem ok__law_wires {P : Program} {w : World} {K : PySem.W.Frag} {mg : Str → Option Value} {base : Heap} {cH cHE : Addr} (T : Txt K mg cH cHE) (D : Def K mg 49 "_law_wires") (c__law_take : Cal P w K mg base CX0 2 "_law_take" ["_law_box_here", "_law_many"] (sp__law_take K))
    (hp : ∀ vs H Q E, sp__law_wires K vs H Q E → vs.length = 2 ∧ t__law_wires K { nx := fun _ H' => Q .non H', rt := Q } (start N__law_wires vs) H) :
    Cal P w K mg base CX0 3 "_law_wires" ["_law_box_here", "_law_line_here"] (sp__law_wires K) :=
  cal_mk (t__law_wires K) D sc__law_wires (fun _ _ _ _ _ _ us hl => match us, hl with | [_, _], _ => rfl) (fun f cdv A outer s H E hr => (pss_cons (ps_set (i := 2) sc__law_wires.nd rfl (Or.inl rfl) (pe_cl c__law_take (hr.mono (by decide)) (by rfl) pass0 (pa_cons (pv 0) (pa_cons pe_int pa_nil))))
    (pss_cons (ps_set (i := 3) sc__law_wires.nd rfl (Or.inl rfl) (pe_lst pa_nil))
    (pss_cons (ps_for PassesOwn.never rfl (pi_range2 rfl T.m_range (pa_cons pe_int (pa_cons (pe_callB c_len (by rfl) T.m_len (by decide +kernel) (pa_cons (pv 1) pa_nil)) pa_nil))) (pg_name (i := 4) sc__law_wires.nd rfl (Or.inl rfl))
    (pss_cons (ps_if (pt_cmpR op_eq (pv 2) pe_int (nomark _)) (pss_one (ps_expr (pe_bm PySem.F.plainAttrs_list PySem.F.slot_list_append PySem.F.type_list_append mt_append (pv 3) (pa_cons (pe_tup (pa_cons (pe_ix ix_list (pv 1) (pe_op op_sub (pv 4) pe_int) (fun _ _ => rfl)) (pa_cons (pe_ix ix_list (pv 1) (pv 4) (fun _ _ => rfl)) pa_nil))) pa_nil)))) pss_nil)
    (pss_cons (ps_if (PW.pt (pw_and (pt_cmpR op_eq (pv 2) pe_int (nomark _)) (pw_and1 (pt_cmpR op_gt (pe_cl c__law_take (hr.mono (by decide)) (by rfl) pass0 (pa_cons (pv 0) (pa_cons pe_int pa_nil))) pe_int (nomark _))))) (pss_one (ps_expr (pe_bm PySem.F.plainAttrs_list PySem.F.slot_list_append PySem.F.type_list_append mt_append (pv 3) (pa_cons (pe_tup (pa_cons (pe_ix ix_list (pv 1) (pe_cl c__law_take (hr.mono (by decide)) (by rfl) pass0 (pa_cons (pv 0) (pa_cons (pv 4) pa_nil))) (fun _ _ => rfl)) (pa_cons (pe_ix ix_list (pv 1) (pv 4) (fun _ _ => rfl)) pa_nil))) pa_nil)))) pss_nil)
    (pss_one (ps_if (pt_cmpR op_gt (pv 2) pe_int (nomark _)) (pss_one (ps_for PassesOwn.never rfl (pi_range1 rfl T.m_range (pa_cons (pv 4) pa_nil)) (pg_name (i := 5) sc__law_wires.nd rfl (Or.inl rfl))
    (pss_one (ps_if (pt_cmpR op_eq (pe_cl c__law_take (hr.mono (by decide)) (by rfl) pass0 (pa_cons (pv 0) (pa_cons (pe_op op_sub (pv 2) pe_int) pa_nil))) pe_int (nomark _)) (pss_one (ps_expr (pe_bm PySem.F.plainAttrs_list PySem.F.slot_list_append PySem.F.type_list_append mt_append (pv 3) (pa_cons (pe_tup (pa_cons (pe_ix ix_list (pv 1) (pv 5) (fun _ _ => rfl)) (pa_cons (pe_ix ix_list (pv 1) (pv 4) (fun _ _ => rfl)) pa_nil))) pa_nil)))) pss_nil)))) pss_nil)))))
    (pss_cons (ps_set (i := 6) sc__law_wires.nd rfl (Or.inl rfl) (pe_cl c__law_take (hr.mono (by decide)) (by rfl) pass0 (pa_cons (pv 0) (pa_cons (pe_op op_add (pe_callB c_len (by rfl) T.m_len (by decide +kernel) (pa_cons (pv 3) pa_nil)) pe_int) pa_nil))))
    (pss_one (ps_ret (pe_op op_cat (pe_slice sl_list (pv 3) (po_some (pv 6)) po_none) (pe_slice sl_list (pv 3) po_none (po_some (pv 6))))))))))) hp
theorem sc__order_list : FnScope N__order_list ["masks"] (defScope (top 19)) := ⟨rfl, rfl, rfl, by decide +kernel, rfl, by decide +kernel, by decide +kernel⟩
theorem ok__order_list {P : Program} {w : World} {K : PySem.W.Frag} {mg : Str → Option Value} {base : Heap} {cH cHE : Addr} (T : Txt K mg cH cHE) (D : Def K mg 19 "_order_list") 
    (hp : ∀ vs H Q E, sp__order_list K vs H Q E → vs.length = 1 ∧ t__order_list K { nx := fun _ H' => Q .non H', rt := Q } (start N__order_list vs) H) :
    Cal P w K mg base CX0 1 "_order_list" ["masks"] (sp__order_list K) :=
  cal_mk (t__order_list K) D sc__order_list (fun _ _ _ _ _ _ us hl => match us, hl with | [_], _ => rfl) (fun f cdv A outer s H E hr => (pss_cons (ps_set (i := 1) sc__order_list.nd rfl (Or.inl rfl) (pe_lst pa_nil))
    (pss_cons (ps_set (i := 2) sc__order_list.nd rfl (Or.inr rfl) pe_int)
    (pss_cons (ps_while PassesOwn.never (pt_cmpR op_lt (pe_callB c_len (by rfl) T.m_len (by decide +kernel) (pa_cons (pv 1) pa_nil)) (pe_callB c_len (by rfl) T.m_len (by decide +kernel) (pa_cons (pv 0) pa_nil)) (nomark _)) (pss_cons (ps_setLc (i := 3) (own := [("lamp", 5), ("mask", 6)]) rfl sc__order_list.nd rfl rfl (sw_true rfl rfl rfl (by decide +kernel)) (pi_enum (by rfl) T.m_enumerate (pa_cons (pv 0) pa_nil)) (blkOk_by (own := [("lamp", 5), ("mask", 6)]) (N := N__order_list) (sc := (defScope (top 19))) (by decide +kernel)) (fun _ _ _ _ _ => (pg_tup rfl (pgs_cons (pg_name (i := 5) sc__order_list.nd rfl (Or.inl rfl)) (pgs_cons (pg_name (i := 6) sc__order_list.nd rfl (Or.inl rfl)) pgs_nil)))) (fun _ _ _ _ _ => (pts_one (pt_cmpR op_eq (pe_op op_and (pv 6) (pv 2)) (pv 6) (nomark _)))) (fun _ _ _ _ _ => (pv 5)))
    (pss_cons (ps_setLc (i := 4) (own := [("lamp", 5)]) rfl sc__order_list.nd rfl rfl (sw_true rfl rfl rfl (by decide +kernel)) (pi_list (pv 3)) (blkOk_by (own := [("lamp", 5)]) (N := N__order_list) (sc := (defScope (top 19))) (by decide +kernel)) (fun _ _ _ _ _ => (pg_name (i := 5) sc__order_list.nd rfl (Or.inl rfl))) (fun _ _ _ _ _ => (pts_one (pt_cmpR op_eq (pe_op op_and (pe_op op_shr (pv 2) (pv 5)) pe_int) pe_int (nomark _)))) (fun _ _ _ _ _ => (pv 5)))
    (pss_cons (ps_expr (pe_bm PySem.F.plainAttrs_list PySem.F.slot_list_append PySem.F.type_list_append mt_append (pv 1) (pa_cons (pe_ix ix_list (pv 4) pe_int (fun _ _ => rfl)) pa_nil)))
    (pss_one (ps_set (i := 2) sc__order_list.nd rfl (Or.inr rfl) (pe_op op_or (pv 2) (pe_op op_shl pe_int (pe_ix ix_list (pv 4) pe_int (fun _ _ => rfl))))))))))
    (pss_one (ps_ret (pv 1))))))) hp
theorem sc__law_form : FnScope N__law_form ["_law_house_here", "_law_lamps_here", "_law_due"] (defScope (top 71)) := ⟨rfl, rfl, rfl, by decide +kernel, rfl, by decide +kernel, by decide +kernel⟩
theorem ok__law_form {P : Program} {w : World} {K : PySem.W.Frag} {mg : Str → Option Value} {base : Heap} {cH cHE : Addr} (T : Txt K mg cH cHE) (D : Def K mg 71 "_law_form") (c__law_listed : Cal P w K mg base CX0 1 "_law_listed" ["_law_told", "_law_due"] (sp__law_listed K)) (c_sorted_form : Cal P w K mg base (L2.CX P w) 6 "sorted_form" ["house", "run"] (sp_sorted_form K))
    (hp : ∀ vs H Q E, sp__law_form K vs H Q E → vs.length = 3 ∧ t__law_form K { nx := fun _ H' => Q .non H', rt := Q } (start N__law_form vs) H) :
    Cal P w K mg base CX0 7 "_law_form" ["_law_house_here", "_law_lamps_here", "_law_due"] (sp__law_form K) :=
  cal_mk (t__law_form K) D sc__law_form (fun _ _ _ _ _ _ us hl => match us, hl with | [_, _, _], _ => rfl) (fun f cdv A outer s H E hr => (pss_cons (ps_set (i := 3) sc__law_form.nd rfl (Or.inl rfl) (pe_callTy c_list (by rfl) T.m_list (by decide +kernel) (pa_cons (pv 1) pa_nil)))
    (pss_cons (ps_set (i := 4) sc__law_form.nd rfl (Or.inl rfl) (pe_cl c_sorted_form (hr.mono (by decide)) (by rfl) passL (pa_cons (pv 0) (pa_cons (pv 3) pa_nil))))
    (pss_cons (ps_if (pt_not (pt_val (pe_cl c__law_listed (hr.mono (by decide)) (by rfl) pass0 (pa_cons (pv 4) (pa_cons (pv 2) pa_nil))))) (pss_one (ps_ret pe_bl)) pss_nil)
    (pss_cons (ps_if (pt_not (pt_val (pe_cl c__law_listed (hr.mono (by decide)) (by rfl) pass0 (pa_cons (pe_cl c_sorted_form (hr.mono (by decide)) (by rfl) passL (pa_cons (pv 0) (pa_cons (pv 4) pa_nil))) (pa_cons (pv 2) pa_nil))))) (pss_one (ps_ret pe_bl)) pss_nil)
    (pss_cons (ps_expr (pe_bm PySem.F.plainAttrs_list PySem.F.slot_list_append PySem.F.type_list_append mt_append (pv 4) (pa_cons (pe_un un_neg pe_int) pa_nil)))
    (pss_one (ps_ret (pe_and (pe_cl c__law_listed (hr.mono (by decide)) (by rfl) pass0 (pa_cons (pe_cl c_sorted_form (hr.mono (by decide)) (by rfl) passL (pa_cons (pv 0) (pa_cons (pv 3) pa_nil))) (pa_cons (pv 2) pa_nil))) (pe_one (pe_cmpR (op_eqD hr.units) (pv 3) (pv 1) (nomark _)))))))))))) hp
theorem sc_moved : FnScope N_moved ["house", "state", "lamp"] (defScope (top 30)) := ⟨rfl, rfl, rfl, by decide +kernel, rfl, by decide +kernel, by decide +kernel⟩
theorem ok_moved {P : Program} {w : World} {K : PySem.W.Frag} {mg : Str → Option Value} {base : Heap} {cH cHE : Addr} (T : Txt K mg cH cHE) (D : Def K mg 30 "moved") (c_below_masks : Cal P w K mg base CX0 1 "below_masks" ["house"] (sp_below_masks K)) (c_bits : Cal P w K mg base CX0 1 "bits" ["mask"] (sp_bits K)) (c_turned_down : Cal P w K mg base CX0 1 "turned_down" ["hue", "hues"] (sp_turned_down K))
    (hp : ∀ vs H Q E, sp_moved K vs H Q E → vs.length = 3 ∧ t_moved K { nx := fun _ H' => Q .non H', rt := Q } (start N_moved vs) H) :
    Cal P w K mg base CX0 2 "moved" ["house", "state", "lamp"] (sp_moved K) :=
  cal_mk (t_moved K) D sc_moved (fun _ _ _ _ _ _ us hl => match us, hl with | [_, _, _], _ => rfl) (fun f cdv A outer s H E hr => (pss_cons (ps_set (i := 3) sc_moved.nd rfl (Or.inl rfl) (pe_fld (pv 0) rfl))
    (pss_cons (ps_set (i := 4) sc_moved.nd rfl (Or.inl rfl) (pe_callTy c_list (by rfl) T.m_list (by decide +kernel) (pa_cons (pv 1) pa_nil)))
    (pss_cons (ps_asg (pe_op op_sub (pe_ix ix_tup (pv 1) (pv 2) (fun _ _ => rfl)) pe_int) (pg_sub (pv 4) (pv 2) set_list))
    (pss_cons (ps_for PassesOwn.never rfl (pi_list (pe_cl c_bits (hr.mono (by decide)) (by rfl) pass0 (pa_cons (pe_ix ix_list (pe_cl c_below_masks (hr.mono (by decide)) (by rfl) pass0 (pa_cons (pv 0) pa_nil)) (pv 2) (fun _ _ => rfl)) pa_nil))) (pg_name (i := 5) sc_moved.nd rfl (Or.inl rfl))
    (pss_one (ps_asg (pe_cl c_turned_down (hr.mono (by decide)) (by rfl) pass0 (pa_cons (pe_ix ix_tup (pv 1) (pv 5) (fun _ _ => rfl)) (pa_cons (pv 3) pa_nil))) (pg_sub (pv 4) (pv 5) set_list))))
    (pss_one (ps_ret (pe_callTy c_tuple (by rfl) T.m_tuple (by decide +kernel) (pa_cons (pv 4) pa_nil))))))))) hp
theorem sc_is_state : FnScope N_is_state ["house", "value"] (defScope (top 22)) := ⟨rfl, rfl, rfl, by decide +kernel, rfl, by decide +kernel, by decide +kernel⟩
theorem ok_is_state {P : Program} {w : World} {K : PySem.W.Frag} {mg : Str → Option Value} {base : Heap} {cH cHE : Addr} (T : Txt K mg cH cHE) (D : Def K mg 22 "is_state") (c_is_integer : Cal P w K mg base CX0 1 "is_integer" ["value"] (sp_is_integer K))
    (hp : ∀ vs H Q E, sp_is_state K vs H Q E → vs.length = 2 ∧ t_is_state K { nx := fun _ H' => Q .non H', rt := Q } (start N_is_state vs) H) :
    Cal P w K mg base CX0 2 "is_state" ["house", "value"] (sp_is_state K) :=
  cal_mk (t_is_state K) D sc_is_state (fun _ _ _ _ _ _ us hl => match us, hl with | [_, _], _ => rfl) (fun f cdv A outer s H E hr => (pss_cons (ps_if (PW.pt (pw_or (pt_not (pt_val (pe_callB call_isi (by rfl) T.m_isinstance (by decide +kernel) (pa_cons (pv 1) (pa_cons (pe_bltn (v := .ty "tuple") (by rfl) T.m_tuple (by decide +kernel) rfl) pa_nil))))) (pw_or1 (pt_cmpR op_ne (pe_callB c_len (by rfl) T.m_len (by decide +kernel) (pa_cons (pv 1) pa_nil)) (pe_fld (pv 0) rfl) (nomark _))))) (pss_one (ps_ret pe_bl)) pss_nil)
    (pss_one (ps_ret (pe_callB (cr_all rfl) (by rfl) T.m_all (by decide +kernel) (pa_cons (pe_lc (own := [("hue", 2)]) rfl sc_is_state.nd (pi_tup (pv 1)) (blkOk_by (own := [("hue", 2)]) (N := N_is_state) (sc := (defScope (top 22))) (by decide +kernel)) (fun _ _ _ _ _ => (pg_name (i := 2) sc_is_state.nd rfl (Or.inl rfl))) (fun _ _ _ _ _ => pts_nil) (fun _ _ _ _ _ => (pe_and (pe_cl c_is_integer (hr.mono (by decide)) (by rfl) pass0 (pa_cons (pv 2) pa_nil)) (pe_one (pe_chain op_le op_lt pe_int (pv 2) (pe_fld (pv 0) rfl)))))) pa_nil)))))) hp
theorem sc_counts_of : FnScope N_counts_of ["house", "run"] (defScope (top 36)) := ⟨rfl, rfl, rfl, by decide +kernel, rfl, by decide +kernel, by decide +kernel⟩
theorem ok_counts_of {P : Program} {w : World} {K : PySem.W.Frag} {mg : Str → Option Value} {base : Heap} {cH cHE : Addr} (T : Txt K mg cH cHE) (D : Def K mg 36 "counts_of") (c_need_run : Cal P w K mg base (L2.CX P w) 5 "need_run" ["house", "run"] (sp_need_run K))
    (hp : ∀ vs H Q E, sp_counts_of K vs H Q E → vs.length = 2 ∧ t_counts_of K { nx := fun _ H' => Q .non H', rt := Q } (start N_counts_of vs) H) :
    Cal P w K mg base CX0 6 "counts_of" ["house", "run"] (sp_counts_of K) :=
  cal_mk (t_counts_of K) D sc_counts_of (fun _ _ _ _ _ _ us hl => match us, hl with | [_, _], _ => rfl) (fun f cdv A outer s H E hr => (pss_cons (ps_expr (pe_cl c_need_run (hr.mono (by decide)) (by rfl) passL (pa_cons (pv 0) (pa_cons (pv 1) pa_nil))))
    (pss_cons (ps_setLc (i := 2) (own := [("_", 4)]) rfl sc_counts_of.nd rfl rfl (sw_true rfl rfl rfl (by decide +kernel)) (pi_range1 rfl T.m_range (pa_cons (pe_fld (pv 0) rfl) pa_nil)) (blkOk_by (own := [("_", 4)]) (N := N_counts_of) (sc := (defScope (top 36))) (by decide +kernel)) (fun _ _ _ _ _ => (pg_name (i := 4) sc_counts_of.nd rfl (Or.inl rfl))) (fun _ _ _ _ _ => pts_nil) (fun _ _ _ _ _ => pe_int))
    (pss_cons (ps_for PassesOwn.never rfl (pi_list (pv 1)) (pg_name (i := 3) sc_counts_of.nd rfl (Or.inl rfl))
    (pss_one (ps_augS (pv 2) (pv 3) get_list pe_int ip_add set_list)))
    (pss_one (ps_ret (pv 2))))))) hp
theorem sc_moves_at : FnScope N_moves_at ["run", "upper", "lower"] (defScope (top 39)) := ⟨rfl, rfl, rfl, by decide +kernel, rfl, by decide +kernel, by decide +kernel⟩
theorem ok_moves_at {P : Program} {w : World} {K : PySem.W.Frag} {mg : Str → Option Value} {base : Heap} {cH cHE : Addr} (T : Txt K mg cH cHE) (D : Def K mg 39 "moves_at") 
    (hp : ∀ vs H Q E, sp_moves_at K vs H Q E → vs.length = 3 ∧ t_moves_at K { nx := fun _ H' => Q .non H', rt := Q } (start N_moves_at vs) H) :
    Cal P w K mg base CX0 1 "moves_at" ["run", "upper", "lower"] (sp_moves_at K) :=
  cal_mk (t_moves_at K) D sc_moves_at (fun _ _ _ _ _ _ us hl => match us, hl with | [_, _, _], _ => rfl) (fun f cdv A outer s H E hr => (pss_one (ps_ret (pe_lc (own := [("lamp", 3)]) rfl sc_moves_at.nd (pi_list (pv 0)) (blkOk_by (own := [("lamp", 3)]) (N := N_moves_at) (sc := (defScope (top 39))) (by decide +kernel)) (fun _ _ _ _ _ => (pg_name (i := 3) sc_moves_at.nd rfl (Or.inl rfl))) (fun _ _ _ _ _ => (pts_one (PW.pt (pw_or (pt_cmpR op_eq (pv 3) (pv 1) (nomark _)) (pw_or1 (pt_cmpR op_eq (pv 3) (pv 2) (nomark _))))))) (fun _ _ _ _ _ => (pv 3)))))) hp
theorem sc_is_lamp : FnScope N_is_lamp ["house", "value"] (defScope (top 11)) := ⟨rfl, rfl, rfl, by decide +kernel, rfl, by decide +kernel, by decide +kernel⟩
theorem ok_is_lamp {P : Program} {w : World} {K : PySem.W.Frag} {mg : Str → Option Value} {base : Heap} {cH cHE : Addr} (T : Txt K mg cH cHE) (D : Def K mg 11 "is_lamp") (c_is_integer : Cal P w K mg base CX0 1 "is_integer" ["value"] (sp_is_integer K))
    (hp : ∀ vs H Q E, sp_is_lamp K vs H Q E → vs.length = 2 ∧ t_is_lamp K { nx := fun _ H' => Q .non H', rt := Q } (start N_is_lamp vs) H) :
    Cal P w K mg base CX0 2 "is_lamp" ["house", "value"] (sp_is_lamp K) :=
  cal_mk (t_is_lamp K) D sc_is_lamp (fun _ _ _ _ _ _ us hl => match us, hl with | [_, _], _ => rfl) (fun f cdv A outer s H E hr => (pss_one (ps_ret (pe_and (pe_cl c_is_integer (hr.mono (by decide)) (by rfl) pass0 (pa_cons (pv 1) pa_nil)) (pe_one (pe_chain op_le op_lt pe_int (pv 1) (pe_fld (pv 0) rfl))))))) hp
end Hue
end
section
set_option maxHeartbeats 4000000
namespace Hue
open PySem PySem.Spec PyProof.Rows L2
theorem sc__law_other : FnScope N__law_other ["_law_box_here", "_law_below_here", "_law_lamps_here"] (defScope (top 68)) := ⟨rfl, rfl, rfl, by decide +kernel, rfl, by decide +kernel, by decide +kernel⟩
theorem ok__law_other {P : Program} {w : World} {K : PySem.W.Frag} {mg : Str → Option Value} {base : Heap} {cH cHE : Addr} (T : Txt K mg cH cHE) (D : Def K mg 68 "_law_other") (c__law_shuffled : Cal P w K mg base CX0 3 "_law_shuffled" ["_law_box_here", "_law_below_here", "_law_lamps_here"] (sp__law_shuffled K)) (c__law_take : Cal P w K mg base CX0 2 "_law_take" ["_law_box_here", "_law_many"] (sp__law_take K))
    (hp : ∀ vs H Q E, sp__law_other K vs H Q E → vs.length = 3 ∧ t__law_other K { nx := fun _ H' => Q .non H', rt := Q } (start N__law_other vs) H) :
    Cal P w K mg base CX0 4 "_law_other" ["_law_box_here", "_law_below_here", "_law_lamps_here"] (sp__law_other K) :=
  cal_mk (t__law_other K) D sc__law_other (fun _ _ _ _ _ _ us hl => match us, hl with | [_, _, _], _ => rfl) (fun f cdv A outer s H E hr => (pss_cons (ps_set (i := 3) sc__law_other.nd rfl (Or.inl rfl) (pe_cl c__law_take (hr.mono (by decide)) (by rfl) pass0 (pa_cons (pv 0) (pa_cons pe_int pa_nil))))
    (pss_cons (ps_if (PW.pt (pw_or (pt_cmpR op_eq (pv 3) pe_int (nomark _)) (pw_or1 (pt_cmpR (op_eqD hr.units) (pv 2) (pe_lst pa_nil) (nomark _))))) (pss_one (ps_ret (pe_cl c__law_shuffled (hr.mono (by decide)) (by rfl) pass0 (pa_cons (pv 0) (pa_cons (pv 1) (pa_cons (pv 2) pa_nil)))))) pss_nil)
    (pss_cons (ps_set (i := 4) sc__law_other.nd rfl (Or.inl rfl) (pe_cl c__law_take (hr.mono (by decide)) (by rfl) pass0 (pa_cons (pv 0) (pa_cons (pe_callB c_len (by rfl) T.m_len (by decide +kernel) (pa_cons (pv 2) pa_nil)) pa_nil))))
    (pss_cons (ps_if (pt_cmpR op_eq (pv 3) pe_int (nomark _)) (pss_one (ps_ret (pe_op op_cat (pe_op op_cat (pe_slice sl_list (pv 2) po_none (po_some (pv 4))) (pe_lst (pa_cons (pe_cl c__law_take (hr.mono (by decide)) (by rfl) pass0 (pa_cons (pv 0) (pa_cons (pe_callB c_len (by rfl) T.m_len (by decide +kernel) (pa_cons (pv 1) pa_nil)) pa_nil))) pa_nil))) (pe_slice sl_list (pv 2) (po_some (pe_op op_add (pv 4) pe_int)) po_none)))) pss_nil)
    (pss_cons (ps_if (pt_cmpR op_eq (pv 3) pe_int (nomark _)) (pss_one (ps_ret (pe_op op_cat (pe_slice sl_list (pv 2) po_none (po_some (pv 4))) (pe_slice sl_list (pv 2) (po_some (pe_op op_add (pv 4) pe_int)) po_none)))) pss_nil)
    (pss_cons (ps_if (pt_cmpR op_eq (pv 3) pe_int (nomark _)) (pss_one (ps_ret (pe_op op_cat (pe_op op_cat (pe_slice sl_list (pv 2) po_none (po_some (pv 4))) (pe_revL (pe_slice sl_list (pv 2) (po_some (pv 4)) (po_some (pe_op op_add (pv 4) pe_int))))) (pe_slice sl_list (pv 2) (po_some (pe_op op_add (pv 4) pe_int)) po_none)))) pss_nil)
    (pss_cons (ps_set (i := 5) sc__law_other.nd rfl (Or.inl rfl) (pe_lst pa_nil))
    (pss_cons (ps_for PassesOwn.never rfl (pi_list (pv 2)) (pg_name (i := 6) sc__law_other.nd rfl (Or.inl rfl))
    (pss_one (ps_expr (pe_bm PySem.F.plainAttrs_list PySem.F.slot_list_insert PySem.F.type_list_insert mt_insQ (pv 5) (pa_cons (pe_cl c__law_take (hr.mono (by decide)) (by rfl) pass0 (pa_cons (pv 0) (pa_cons (pe_op op_add (pe_callB c_len (by rfl) T.m_len (by decide +kernel) (pa_cons (pv 5) pa_nil)) pe_int) pa_nil))) (pa_cons (pv 6) pa_nil))))))
    (pss_one (ps_ret (pv 5)))))))))))) hp
theorem sc__law_listing : FnScope N__law_listing ["_law_house_here", "_law_below_here", "_law_lamps_here"] (defScope (top 70)) := ⟨rfl, rfl, rfl, by decide +kernel, rfl, by decide +kernel, by decide +kernel⟩
theorem ok__law_listing {P : Program} {w : World} {K : PySem.W.Frag} {mg : Str → Option Value} {base : Heap} {cH cHE : Addr} (T : Txt K mg cH cHE) (D : Def K mg 70 "_law_listing") (c__law_neighbours : Cal P w K mg base CX0 2 "_law_neighbours" ["_law_below_here", "_law_lamps_here"] (sp__law_neighbours K)) (c__law_rows : Cal P w K mg base CX0 2 "_law_rows" ["_law_told", "_law_due"] (sp__law_rows K)) (c_neighbours : Cal P w K mg base (L2.CX P w) 6 "neighbours" ["house", "run"] (sp_neighbours K))
    (hp : ∀ vs H Q E, sp__law_listing K vs H Q E → vs.length = 3 ∧ t__law_listing K { nx := fun _ H' => Q .non H', rt := Q } (start N__law_listing vs) H) :
    Cal P w K mg base CX0 7 "_law_listing" ["_law_house_here", "_law_below_here", "_law_lamps_here"] (sp__law_listing K) :=
  cal_mk (t__law_listing K) D sc__law_listing (fun _ _ _ _ _ _ us hl => match us, hl with | [_, _, _], _ => rfl) (fun f cdv A outer s H E hr => (pss_cons (ps_set (i := 3) sc__law_listing.nd rfl (Or.inl rfl) (pe_callTy c_list (by rfl) T.m_list (by decide +kernel) (pa_cons (pv 2) pa_nil)))
    (pss_cons (ps_set (i := 4) sc__law_listing.nd rfl (Or.inl rfl) (pe_cl c__law_neighbours (hr.mono (by decide)) (by rfl) pass0 (pa_cons (pv 1) (pa_cons (pv 2) pa_nil))))
    (pss_cons (ps_set (i := 5) sc__law_listing.nd rfl (Or.inl rfl) (pe_cl c_neighbours (hr.mono (by decide)) (by rfl) passL (pa_cons (pv 0) (pa_cons (pv 3) pa_nil))))
    (pss_cons (ps_if (pt_not (pt_val (pe_cl c__law_rows (hr.mono (by decide)) (by rfl) pass0 (pa_cons (pv 5) (pa_cons (pv 4) pa_nil))))) (pss_one (ps_ret pe_bl)) pss_nil)
    (pss_cons (ps_for PassesOwn.never rfl (pi_list (pv 5)) (pg_name (i := 6) sc__law_listing.nd rfl (Or.inl rfl))
    (pss_one (ps_expr (pe_bm PySem.F.plainAttrs_list PySem.F.slot_list_append PySem.F.type_list_append mt_append (pv 6) (pa_cons (pe_un un_neg pe_int) pa_nil)))))
    (pss_cons (ps_expr (pe_bm PySem.F.plainAttrs_list PySem.F.slot_list_append PySem.F.type_list_append mt_append (pv 5) (pa_cons (pe_lst pa_nil) pa_nil)))
    (pss_one (ps_ret (pe_and (pe_cl c__law_rows (hr.mono (by decide)) (by rfl) pass0 (pa_cons (pe_cl c_neighbours (hr.mono (by decide)) (by rfl) passL (pa_cons (pv 0) (pa_cons (pv 3) pa_nil))) (pa_cons (pv 4) pa_nil))) (pe_one (pe_cmpR (op_eqD hr.units) (pv 3) (pv 2) (nomark _))))))))))))) hp
theorem sc__law_state : FnScope N__law_state ["_law_box_here", "_law_count", "_law_hues"] (defScope (top 52)) := ⟨rfl, rfl, rfl, by decide +kernel, rfl, by decide +kernel, by decide +kernel⟩
theorem ok__law_state {P : Program} {w : World} {K : PySem.W.Frag} {mg : Str → Option Value} {base : Heap} {cH cHE : Addr} (T : Txt K mg cH cHE) (D : Def K mg 52 "_law_state") (c__law_take : Cal P w K mg base CX0 2 "_law_take" ["_law_box_here", "_law_many"] (sp__law_take K))
    (hp : ∀ vs H Q E, sp__law_state K vs H Q E → vs.length = 3 ∧ t__law_state K { nx := fun _ H' => Q .non H', rt := Q } (start N__law_state vs) H) :
    Cal P w K mg base CX0 3 "_law_state" ["_law_box_here", "_law_count", "_law_hues"] (sp__law_state K) :=
  cal_mk (t__law_state K) D sc__law_state (fun _ _ _ _ _ _ us hl => match us, hl with | [_, _, _], _ => rfl) (fun f cdv A outer s H E hr => (pss_cons (ps_if (pt_cmpR op_eq (pe_cl c__law_take (hr.mono (by decide)) (by rfl) pass0 (pa_cons (pv 0) (pa_cons pe_int pa_nil))) pe_int (nomark _)) (pss_one (ps_ret (pe_callTy c_tuple (by rfl) T.m_tuple (by decide +kernel) (pa_cons (pe_lc (own := [("_law_lamp", 3)]) rfl sc__law_state.nd (pi_range1 rfl T.m_range (pa_cons (pv 1) pa_nil)) (blkOk_by (own := [("_law_lamp", 3)]) (N := N__law_state) (sc := (defScope (top 52))) (by decide +kernel)) (fun _ _ _ _ _ => (pg_name (i := 3) sc__law_state.nd rfl (Or.inl rfl))) (fun _ _ _ _ _ => pts_nil) (fun _ _ _ _ _ => (pe_op op_mul (pe_op op_sub (pv 2) pe_int) (pe_cl c__law_take (hr.mono (by decide)) (by rfl) pass0 (pa_cons (pv 0) (pa_cons pe_int pa_nil)))))) pa_nil)))) pss_nil)
    (pss_one (ps_ret (pe_callTy c_tuple (by rfl) T.m_tuple (by decide +kernel) (pa_cons (pe_lc (own := [("_law_lamp", 3)]) rfl sc__law_state.nd (pi_range1 rfl T.m_range (pa_cons (pv 1) pa_nil)) (blkOk_by (own := [("_law_lamp", 3)]) (N := N__law_state) (sc := (defScope (top 52))) (by decide +kernel)) (fun _ _ _ _ _ => (pg_name (i := 3) sc__law_state.nd rfl (Or.inl rfl))) (fun _ _ _ _ _ => pts_nil) (fun _ _ _ _ _ => (pe_cl c__law_take (hr.mono (by decide)) (by rfl) pass0 (pa_cons (pv 0) (pa_cons (pv 2) pa_nil))))) pa_nil)))))) hp
theorem sc_comparable_lamps : FnScope N_comparable_lamps ["house"] (defScope (top 38)) := ⟨rfl, rfl, rfl, by decide +kernel, rfl, by decide +kernel, by decide +kernel⟩
theorem ok_comparable_lamps {P : Program} {w : World} {K : PySem.W.Frag} {mg : Str → Option Value} {base : Heap} {cH cHE : Addr} (T : Txt K mg cH cHE) (D : Def K mg 38 "comparable_lamps") (c_above_masks : Cal P w K mg base CX0 1 "above_masks" ["house"] (sp_above_masks K)) (c_below_masks : Cal P w K mg base CX0 1 "below_masks" ["house"] (sp_below_masks K)) (c_bits : Cal P w K mg base CX0 1 "bits" ["mask"] (sp_bits K))
    (hp : ∀ vs H Q E, sp_comparable_lamps K vs H Q E → vs.length = 1 ∧ t_comparable_lamps K { nx := fun _ H' => Q .non H', rt := Q } (start N_comparable_lamps vs) H) :
    Cal P w K mg base CX0 2 "comparable_lamps" ["house"] (sp_comparable_lamps K) :=
  cal_mk (t_comparable_lamps K) D sc_comparable_lamps (fun _ _ _ _ _ _ us hl => match us, hl with | [_], _ => rfl) (fun f cdv A outer s H E hr => (pss_cons (ps_set (i := 1) sc_comparable_lamps.nd rfl (Or.inr rfl) (pe_cl c_below_masks (hr.mono (by decide)) (by rfl) pass0 (pa_cons (pv 0) pa_nil)))
    (pss_cons (ps_set (i := 2) sc_comparable_lamps.nd rfl (Or.inr rfl) (pe_cl c_above_masks (hr.mono (by decide)) (by rfl) pass0 (pa_cons (pv 0) pa_nil)))
    (pss_one (ps_ret (pe_lc (own := [("lamp", 3)]) rfl sc_comparable_lamps.nd (pi_range1 rfl T.m_range (pa_cons (pe_fld (pv 0) rfl) pa_nil)) (blkOk_by (own := [("lamp", 3)]) (N := N_comparable_lamps) (sc := (defScope (top 38))) (by decide +kernel)) (fun _ _ _ _ _ => (pg_name (i := 3) sc_comparable_lamps.nd rfl (Or.inl rfl))) (fun _ _ _ _ _ => pts_nil) (fun _ _ _ _ _ => (pe_cl c_bits (hr.mono (by decide)) (by rfl) pass0 (pa_cons (pe_op op_or (pe_ix ix_list (pv 1) (pv 3) (fun _ _ => rfl)) (pe_ix ix_list (pv 2) (pv 3) (fun _ _ => rfl))) pa_nil))))))))) hp
theorem sc_next_sorted : FnScope N_next_sorted ["heads", "comparable", "end"] (defScope (top 41)) := ⟨rfl, rfl, rfl, by decide +kernel, rfl, by decide +kernel, by decide +kernel⟩
theorem ok_next_sorted {P : Program} {w : World} {K : PySem.W.Frag} {mg : Str → Option Value} {base : Heap} {cH cHE : Addr} (T : Txt K mg cH cHE) (D : Def K mg 41 "next_sorted") 
    (hp : ∀ vs H Q E, sp_next_sorted K vs H Q E → vs.length = 3 ∧ t_next_sorted K { nx := fun _ H' => Q .non H', rt := Q } (start N_next_sorted vs) H) :
    Cal P w K mg base CX0 1 "next_sorted" ["heads", "comparable", "end"] (sp_next_sorted K) :=
  cal_mk (t_next_sorted K) D sc_next_sorted (fun _ _ _ _ _ _ us hl => match us, hl with | [_, _, _], _ => rfl) (fun f cdv A outer s H E hr => (pss_cons (ps_for PassesOwn.never rfl (pi_enum (by rfl) T.m_enumerate (pa_cons (pv 0) pa_nil)) (pg_tup rfl (pgs_cons (pg_name (i := 3) sc_next_sorted.nd rfl (Or.inl rfl)) (pgs_cons (pg_name (i := 4) sc_next_sorted.nd rfl (Or.inr rfl)) pgs_nil)))
    (pss_one (ps_if (PW.pt (pw_and (pt_cmpR op_lt (pv 4) (pv 2) (nomark _)) (pw_and1 (pt_val (pe_callB (cr_all rfl) (by rfl) T.m_all (by decide +kernel) (pa_cons (pe_lc (own := [("other", 5)]) rfl sc_next_sorted.nd (pi_list (pe_ix ix_list (pv 1) (pv 3) (fun _ _ => rfl))) (blkOk_by (own := [("other", 5)]) (N := N_next_sorted) (sc := (defScope (top 41))) (by decide +kernel)) (fun _ _ _ _ _ => (pg_name (i := 5) sc_next_sorted.nd rfl (Or.inl rfl))) (fun _ _ _ _ _ => pts_nil) (fun _ _ _ _ _ => (pe_cmpR op_gt (pe_ix ix_list (pv 0) (pv 5) (fun _ _ => rfl)) (pv 4) (nomark _)))) pa_nil)))))) (pss_one (ps_ret (pv 3))) pss_nil)))
    (pss_one (ps_ret pe_non)))) hp
theorem sc__law_line : FnScope N__law_line ["_law_box_here", "_law_count"] (defScope (top 48)) := ⟨rfl, rfl, rfl, by decide +kernel, rfl, by decide +kernel, by decide +kernel⟩
theorem ok__law_line {P : Program} {w : World} {K : PySem.W.Frag} {mg : Str → Option Value} {base : Heap} {cH cHE : Addr} (T : Txt K mg cH cHE) (D : Def K mg 48 "_law_line") (c__law_take : Cal P w K mg base CX0 2 "_law_take" ["_law_box_here", "_law_many"] (sp__law_take K))
    (hp : ∀ vs H Q E, sp__law_line K vs H Q E → vs.length = 2 ∧ t__law_line K { nx := fun _ H' => Q .non H', rt := Q } (start N__law_line vs) H) :
    Cal P w K mg base CX0 3 "_law_line" ["_law_box_here", "_law_count"] (sp__law_line K) :=
  cal_mk (t__law_line K) D sc__law_line (fun _ _ _ _ _ _ us hl => match us, hl with | [_, _], _ => rfl) (fun f cdv A outer s H E hr => (pss_cons (ps_set (i := 2) sc__law_line.nd rfl (Or.inl rfl) (pe_lst pa_nil))
    (pss_cons (ps_for PassesOwn.never rfl (pi_range1 rfl T.m_range (pa_cons (pv 1) pa_nil)) (pg_name (i := 3) sc__law_line.nd rfl (Or.inl rfl))
    (pss_one (ps_expr (pe_bm PySem.F.plainAttrs_list PySem.F.slot_list_insert PySem.F.type_list_insert mt_insQ (pv 2) (pa_cons (pe_cl c__law_take (hr.mono (by decide)) (by rfl) pass0 (pa_cons (pv 0) (pa_cons (pe_op op_add (pv 3) pe_int) pa_nil))) (pa_cons (pv 3) pa_nil))))))
    (pss_one (ps_ret (pv 2)))))) hp
theorem sc_need_run : FnScope N_need_run ["house", "run"] (defScope (top 27)) := ⟨rfl, rfl, rfl, by decide +kernel, rfl, by decide +kernel, by decide +kernel⟩
theorem ok_need_run {P : Program} {w : World} {K : PySem.W.Frag} {mg : Str → Option Value} {base : Heap} {cH cHE : Addr} (T : Txt K mg cH cHE) (D : Def K mg 27 "need_run") (c_need_lamp : Cal P w K mg base (L2.CX P w) 4 "need_lamp" ["house", "value"] (sp_need_lamp K))
    (hp : ∀ vs H Q E, sp_need_run K vs H Q E → vs.length = 2 ∧ t_need_run K E { nx := fun _ H' => Q .non H', rt := Q } (start N_need_run vs) H) :
    Cal P w K mg base (L2.CX P w) 5 "need_run" ["house", "run"] (sp_need_run K) :=
  cal_mkX (t_need_run K) D sc_need_run (fun _ _ _ _ _ _ us hl => match us, hl with | [_, _], _ => rfl) (fun f cdv A outer s H E hr => (pss_one (ps_for (passes_of rfl) rfl (pi_list (pv 1)) (pg_name (i := 2) sc_need_run.nd rfl (Or.inl rfl))
    (pss_one (ps_expr (pe_cl c_need_lamp (hr.mono (by decide)) (by rfl) (passes_call (W := fun c d _ H => E c d H) (takes_of rfl rfl rfl rfl) (fun _ _ _ _ h => h)) (pa_cons (pv 0) (pa_cons (pv 2) pa_nil)))))))) hp
theorem sc_turned_down : FnScope N_turned_down ["hue", "hues"] (defScope (top 23)) := ⟨rfl, rfl, rfl, by decide +kernel, rfl, by decide +kernel, by decide +kernel⟩
theorem ok_turned_down {P : Program} {w : World} {K : PySem.W.Frag} {mg : Str → Option Value} {base : Heap} {cH cHE : Addr} (T : Txt K mg cH cHE) (D : Def K mg 23 "turned_down") 
    (hp : ∀ vs H Q E, sp_turned_down K vs H Q E → vs.length = 2 ∧ t_turned_down K { nx := fun _ H' => Q .non H', rt := Q } (start N_turned_down vs) H) :
    Cal P w K mg base CX0 1 "turned_down" ["hue", "hues"] (sp_turned_down K) :=
  cal_mk (t_turned_down K) D sc_turned_down (fun _ _ _ _ _ _ us hl => match us, hl with | [_, _], _ => rfl) (fun f cdv A outer s H E hr => (pss_cons (ps_if (pt_cmpR op_gt (pv 0) pe_int (nomark _)) (pss_one (ps_ret (pe_op op_sub (pv 0) pe_int))) pss_nil)
    (pss_one (ps_ret (pe_op op_sub (pv 1) pe_int))))) hp
end Hue
end
section
set_option maxHeartbeats 4000000
namespace Hue
open PySem PySem.Spec PyProof.Rows L2
theorem sc_play : FnScope N_play ["house", "state", "run", "careful"] (defScope (top 34)) := ⟨rfl, rfl, rfl, by decide +kernel, rfl, by decide +kernel, by decide +kernel⟩
theorem ok_play {P : Program} {w : World} {K : PySem.W.Frag} {mg : Str → Option Value} {base : Heap} {cH cHE : Addr} (T : Txt K mg cH cHE) (D : DefK K mg 34 "play") (c_moved : Cal P w K mg base CX0 2 "moved" ["house", "state", "lamp"] (sp_moved K)) (c_need_run : Cal P w K mg base (L2.CX P w) 5 "need_run" ["house", "run"] (sp_need_run K)) (c_need_state : Cal P w K mg base CX0 3 "need_state" ["house", "value"] (sp_need_state K)) (c_refuse : Cal P w K mg base CX0 3 "refuse" ["house", "state", "lamp", "step", "careful"] (sp_refuse K))
    (hp : ∀ vs H Q E, sp_play K vs H Q E → vs.length = 4 ∧ t_play K { nx := fun _ H' => Q .non H', rt := Q } (start N_play vs) H) :
    CalK P w K mg base CX0 6 "play" ["house", "state", "run", "careful"] (sp_play K) :=
  cal_mkK (t_play K) D sc_play (fun _ _ _ _ _ _ us ws h1 h2 => match us, ws, h1, h2 with | [_, _, _], [_], _, _ => rfl) (fun f cdv A outer s H E hr => (pss_cons (ps_expr (pe_cl c_need_state (hr.mono (by decide)) (by rfl) pass0 (pa_cons (pv 0) (pa_cons (pv 1) pa_nil))))
    (pss_cons (ps_expr (pe_cl c_need_run (hr.mono (by decide)) (by rfl) passL (pa_cons (pv 0) (pa_cons (pv 2) pa_nil))))
    (pss_cons (ps_set (i := 4) sc_play.nd rfl (Or.inl rfl) (pv 1))
    (pss_cons (ps_for PassesOwn.never rfl (pi_enum (by rfl) T.m_enumerate (pa_cons (pv 2) pa_nil)) (pg_tup rfl (pgs_cons (pg_name (i := 5) sc_play.nd rfl (Or.inl rfl)) (pgs_cons (pg_name (i := 6) sc_play.nd rfl (Or.inl rfl)) pgs_nil)))
    (pss_cons (ps_expr (pe_cl c_refuse (hr.mono (by decide)) (by rfl) pass0 (pa_cons (pv 0) (pa_cons (pv 4) (pa_cons (pv 6) (pa_cons (pv 5) (pa_cons (pv 3) pa_nil)))))))
    (pss_one (ps_set (i := 4) sc_play.nd rfl (Or.inl rfl) (pe_cl c_moved (hr.mono (by decide)) (by rfl) pass0 (pa_cons (pv 0) (pa_cons (pv 4) (pa_cons (pv 6) pa_nil))))))))
    (pss_one (ps_ret (pv 4)))))))) hp
theorem sc_first_refused : FnScope N_first_refused ["house", "state", "run", "careful"] (defScope (top 35)) := ⟨rfl, rfl, rfl, by decide +kernel, rfl, by decide +kernel, by decide +kernel⟩
theorem ok_first_refused {P : Program} {w : World} {K : PySem.W.Frag} {mg : Str → Option Value} {base : Heap} {cH cHE : Addr} (T : Txt K mg cH cHE) (D : DefK K mg 35 "first_refused") (c_can_move : Cal P w K mg base CX0 3 "can_move" ["house", "state", "lamp", "careful"] (sp_can_move K)) (c_moved : Cal P w K mg base CX0 2 "moved" ["house", "state", "lamp"] (sp_moved K)) (c_need_run : Cal P w K mg base (L2.CX P w) 5 "need_run" ["house", "run"] (sp_need_run K)) (c_need_state : Cal P w K mg base CX0 3 "need_state" ["house", "value"] (sp_need_state K))
    (hp : ∀ vs H Q E, sp_first_refused K vs H Q E → vs.length = 4 ∧ t_first_refused K { nx := fun _ H' => Q .non H', rt := Q } (start N_first_refused vs) H) :
    CalK P w K mg base CX0 6 "first_refused" ["house", "state", "run", "careful"] (sp_first_refused K) :=
  cal_mkK (t_first_refused K) D sc_first_refused (fun _ _ _ _ _ _ us ws h1 h2 => match us, ws, h1, h2 with | [_, _, _], [_], _, _ => rfl) (fun f cdv A outer s H E hr => (pss_cons (ps_expr (pe_cl c_need_state (hr.mono (by decide)) (by rfl) pass0 (pa_cons (pv 0) (pa_cons (pv 1) pa_nil))))
    (pss_cons (ps_expr (pe_cl c_need_run (hr.mono (by decide)) (by rfl) passL (pa_cons (pv 0) (pa_cons (pv 2) pa_nil))))
    (pss_cons (ps_set (i := 4) sc_first_refused.nd rfl (Or.inl rfl) (pv 1))
    (pss_cons (ps_for PassesOwn.never rfl (pi_enum (by rfl) T.m_enumerate (pa_cons (pv 2) pa_nil)) (pg_tup rfl (pgs_cons (pg_name (i := 5) sc_first_refused.nd rfl (Or.inl rfl)) (pgs_cons (pg_name (i := 6) sc_first_refused.nd rfl (Or.inl rfl)) pgs_nil)))
    (pss_cons (ps_if (pt_not (pt_val (pe_cl c_can_move (hr.mono (by decide)) (by rfl) pass0 (pa_cons (pv 0) (pa_cons (pv 4) (pa_cons (pv 6) (pa_cons (pv 3) pa_nil))))))) (pss_one (ps_ret (pv 5))) pss_nil)
    (pss_one (ps_set (i := 4) sc_first_refused.nd rfl (Or.inl rfl) (pe_cl c_moved (hr.mono (by decide)) (by rfl) pass0 (pa_cons (pv 0) (pa_cons (pv 4) (pa_cons (pv 6) pa_nil))))))))
    (pss_one (ps_ret pe_non))))))) hp
theorem sc__law_played : FnScope N__law_played ["_law_world_here", "_law_lamps_here", "_law_other_here"] (defScope (top 73)) := ⟨rfl, rfl, rfl, by decide +kernel, rfl, by decide +kernel, by decide +kernel⟩
theorem ok__law_played {P : Program} {w : World} {K : PySem.W.Frag} {mg : Str → Option Value} {base : Heap} {cH cHE : Addr} (T : Txt K mg cH cHE) (D : Def K mg 73 "_law_played") (c__law_same : Cal P w K mg base CX0 1 "_law_same" ["_law_told", "_law_due"] (sp__law_same K)) (c__law_step : Cal P w K mg base CX0 1 "_law_step" ["_law_hues", "_law_below_here", "_law_state_here", "_law_lamp"] (sp__law_step K)) (c__law_wrong : Cal P w K mg base CX0 1 "_law_wrong" ["_law_below_here", "_law_state_here", "_law_lamp", "_law_gentle"] (sp__law_wrong K)) (c_first_refused : CalK P w K mg base CX0 6 "first_refused" ["house", "state", "run", "careful"] (sp_first_refused K)) (c_play : CalK P w K mg base CX0 6 "play" ["house", "state", "run", "careful"] (sp_play K))
    (hp : ∀ vs H Q E, sp__law_played K vs H Q E → vs.length = 3 ∧ t__law_played K { nx := fun _ H' => Q .non H', rt := Q } (start N__law_played vs) H) :
    Cal P w K mg base CX0 7 "_law_played" ["_law_world_here", "_law_lamps_here", "_law_other_here"] (sp__law_played K) :=
  cal_mk (t__law_played K) D sc__law_played (fun _ _ _ _ _ _ us hl => match us, hl with | [_, _, _], _ => rfl) (fun f cdv A outer s H E hr => (pss_cons (ps_asg (pv 0) (pg_tup rfl (pgs_cons (pg_name (i := 3) sc__law_played.nd rfl (Or.inl rfl)) (pgs_cons (pg_name (i := 4) sc__law_played.nd rfl (Or.inl rfl)) (pgs_cons (pg_name (i := 5) sc__law_played.nd rfl (Or.inl rfl)) (pgs_cons (pg_name (i := 6) sc__law_played.nd rfl (Or.inl rfl)) pgs_nil))))))
    (pss_cons (ps_for PassesOwn.never rfl (pi_tup (pe_tup (pa_cons pe_bl (pa_cons pe_bl pa_nil)))) (pg_name (i := 7) sc__law_played.nd rfl (Or.inl rfl))
    (pss_cons (ps_set (i := 8) sc__law_played.nd rfl (Or.inl rfl) (pv 6))
    (pss_cons (ps_for PassesOwn.never rfl (pi_list (pv 1)) (pg_name (i := 9) sc__law_played.nd rfl (Or.inl rfl))
    (pss_cons (ps_if (PW.pt (pw_and (pt_cmpR op_notN (pv 8) pe_non (nomark _)) (pw_and1 (pt_cmpR (op_neD hr.units) (pe_cl c__law_wrong (hr.mono (by decide)) (by rfl) pass0 (pa_cons (pv 5) (pa_cons (pv 8) (pa_cons (pv 9) (pa_cons (pv 7) pa_nil))))) (pe_tup pa_nil) (nomark _))))) (pss_one (ps_set (i := 8) sc__law_played.nd rfl (Or.inl rfl) pe_non)) pss_nil)
    (pss_one (ps_if (pt_cmpR op_notN (pv 8) pe_non (nomark _)) (pss_one (ps_set (i := 8) sc__law_played.nd rfl (Or.inl rfl) (pe_cl c__law_step (hr.mono (by decide)) (by rfl) pass0 (pa_cons (pv 4) (pa_cons (pv 5) (pa_cons (pv 8) (pa_cons (pv 9) pa_nil))))))) pss_nil))))
    (pss_one (ps_if (pt_cmpR op_notN (pv 8) pe_non (nomark _)) (pss_cons (ps_if (pt_cmpR op_notN (pe_clK c_first_refused (hr.mono (by decide)) (by rfl) pass0 (pa_cons (pv 3) (pa_cons (pv 6) (pa_cons (pe_callTy c_list (by rfl) T.m_list (by decide +kernel) (pa_cons (pv 2) pa_nil)) pa_nil))) (pk_cons (pv 7) pk_nil)) pe_non (nomark _)) (pss_one (ps_ret pe_bl)) pss_nil)
    (pss_one (ps_if (pt_not (pt_val (pe_cl c__law_same (hr.mono (by decide)) (by rfl) pass0 (pa_cons (pe_clK c_play (hr.mono (by decide)) (by rfl) pass0 (pa_cons (pv 3) (pa_cons (pv 6) (pa_cons (pe_callTy c_list (by rfl) T.m_list (by decide +kernel) (pa_cons (pv 2) pa_nil)) pa_nil))) (pk_cons (pv 7) pk_nil)) (pa_cons (pv 8) pa_nil))))) (pss_one (ps_ret pe_bl)) pss_nil))) pss_nil)))))
    (pss_one (ps_ret pe_bl))))) hp
theorem sc__join_wires : FnScope N__join_wires ["count", "wires"] (defScope (top 17)) := ⟨rfl, rfl, rfl, by decide +kernel, rfl, by decide +kernel, by decide +kernel⟩
theorem ok__join_wires {P : Program} {w : World} {K : PySem.W.Frag} {mg : Str → Option Value} {base : Heap} {cH cHE : Addr} (T : Txt K mg cH cHE) (D : Def K mg 17 "_join_wires") (c__is_wire : Cal P w K mg base CX0 2 "_is_wire" ["count", "value"] (sp__is_wire K))
    (hp : ∀ vs H Q E, sp__join_wires K vs H Q E → vs.length = 2 ∧ t__join_wires K { nx := fun _ H' => Q .non H', rt := Q } (start N__join_wires vs) H) :
    Cal P w K mg base CX0 3 "_join_wires" ["count", "wires"] (sp__join_wires K) :=
  cal_mk (t__join_wires K) D sc__join_wires (fun _ _ _ _ _ _ us hl => match us, hl with | [_, _], _ => rfl) (fun f cdv A outer s H E hr => (pss_cons (ps_set (i := 2) sc__join_wires.nd rfl (Or.inl rfl) (pe_op op_rep (pe_lst (pa_cons pe_int pa_nil)) (pv 0)))
    (pss_cons (ps_set (i := 3) sc__join_wires.nd rfl (Or.inl rfl) (pe_op op_rep (pe_lst (pa_cons pe_int pa_nil)) (pv 0)))
    (pss_cons (ps_for PassesOwn.never rfl (pi_enumQ (by rfl) T.m_enumerate (pa_cons (pv 1) pa_nil)) (pg_tup rfl (pgs_cons (pg_name (i := 4) sc__join_wires.nd rfl (Or.inl rfl)) (pgs_cons (pg_name (i := 5) sc__join_wires.nd rfl (Or.inl rfl)) pgs_nil)))
    (pss_cons (ps_if (pt_not (pt_val (pe_cl c__is_wire (hr.mono (by decide)) (by rfl) pass0 (pa_cons (pv 0) (pa_cons (pv 5) pa_nil))))) pss_never pss_nil)
    (pss_cons (ps_asg (pv 5) (pg_tup rfl (pgs_cons (pg_name (i := 6) sc__join_wires.nd rfl (Or.inl rfl)) (pgs_cons (pg_name (i := 7) sc__join_wires.nd rfl (Or.inl rfl)) pgs_nil))))
    (pss_cons (ps_if (pt_cmpR op_eq (pe_op op_and (pe_op op_shr (pe_ix ix_list (pv 2) (pv 6) (fun _ _ => rfl)) (pv 7)) pe_int) pe_int (nomark _)) pss_never pss_nil)
    (pss_cons (ps_if (pt_cmpR op_eq (pe_op op_and (pe_op op_shr (pe_ix ix_list (pv 3) (pv 7) (fun _ _ => rfl)) (pv 6)) pe_int) pe_int (nomark _)) pss_never pss_nil)
    (pss_cons (ps_asg (pe_op op_or (pe_ix ix_list (pv 2) (pv 6) (fun _ _ => rfl)) (pe_op op_shl pe_int (pv 7))) (pg_sub (pv 2) (pv 6) set_list))
    (pss_cons (ps_set (i := 8) sc__join_wires.nd rfl (Or.inl rfl) (pe_op op_or (pe_ix ix_list (pv 3) (pv 7) (fun _ _ => rfl)) (pe_op op_shl pe_int (pv 7))))
    (pss_one (ps_for PassesOwn.never rfl (pi_range1 rfl T.m_range (pa_cons (pv 0) pa_nil)) (pg_name (i := 9) sc__join_wires.nd rfl (Or.inl rfl))
    (pss_one (ps_if (PW.pt (pw_or (pt_cmpR op_eq (pv 9) (pv 6) (nomark _)) (pw_or1 (pt_cmpR op_eq (pe_op op_and (pe_op op_shr (pe_ix ix_list (pv 3) (pv 9) (fun _ _ => rfl)) (pv 6)) pe_int) pe_int (nomark _))))) (pss_one (ps_asg (pe_op op_or (pe_ix ix_list (pv 3) (pv 9) (fun _ _ => rfl)) (pv 8)) (pg_sub (pv 3) (pv 9) set_list))) pss_nil)))))))))))
    (pss_one (ps_ret (pv 3))))))) hp
end Hue
end
section
set_option maxHeartbeats 4000000
namespace Hue
open PySem PySem.Spec PyProof.Rows L2
theorem sc_need_lamp : FnScope N_need_lamp ["house", "value"] (defScope (top 25)) := ⟨rfl, rfl, rfl, by decide +kernel, rfl, by decide +kernel, by decide +kernel⟩
theorem ok_need_lamp {P : Program} {w : World} {K : PySem.W.Frag} {mg : Str → Option Value} {base : Heap} {cH cHE : Addr} (T : Txt K mg cH cHE) (IL : IlX P K mg) (D : Def K mg 25 "need_lamp") (c_is_lamp : Cal P w K mg base CX0 2 "is_lamp" ["house", "value"] (sp_is_lamp K))
    (hp : ∀ vs H Q E, sp_need_lamp K vs H Q E → vs.length = 2 ∧ t_need_lamp K E { nx := fun _ H' => Q .non H', rt := Q } (start N_need_lamp vs) H) :
    Cal P w K mg base (L2.CX P w) 4 "need_lamp" ["house", "value"] (sp_need_lamp K) :=
  cal_mkX (t_need_lamp K) D sc_need_lamp (fun _ _ _ _ _ _ us hl => match us, hl with | [_, _], _ => rfl) (fun f cdv A outer s H E hr => (pss_one (ps_if (pt_not (pt_val (pe_cl c_is_lamp (hr.mono (by decide)) (by rfl) pass0 (pa_cons (pv 0) (pa_cons (pv 1) pa_nil))))) (pss_one (ps_raiseIL IL hr rfl (by rfl) (takes_of rfl rfl rfl rfl) (pv 1))) pss_nil))) hp
end Hue
end
section
set_option maxHeartbeats 4000000
namespace Hue
open PySem PySem.Spec PyProof.Rows L2
theorem sc__law_house : FnScope N__law_house ["_law_box_here", "_law_count", "_law_hues", "_law_wires_here"] (defScope (top 51)) := ⟨rfl, rfl, rfl, by decide +kernel, rfl, by decide +kernel, by decide +kernel⟩
theorem ok__law_house {P : Program} {w : World} {K : PySem.W.Frag} {mg : Str → Option Value} {base : Heap} {cH cHE : Addr} (T : Txt K mg cH cHE) (D : Def K mg 51 "_law_house") (c_House : CalH P w K mg base cH 4) (c__law_take : Cal P w K mg base CX0 2 "_law_take" ["_law_box_here", "_law_many"] (sp__law_take K))
    (hp : ∀ vs H Q E, sp__law_house K vs H Q E → vs.length = 4 ∧ t__law_house K { nx := fun _ H' => Q .non H', rt := Q } (start N__law_house vs) H) :
    Cal P w K mg base CX0 6 "_law_house" ["_law_box_here", "_law_count", "_law_hues", "_law_wires_here"] (sp__law_house K) :=
  cal_mk (t__law_house K) D sc__law_house (fun _ _ _ _ _ _ us hl => match us, hl with | [_, _, _, _], _ => rfl) (fun f cdv A outer s H E hr => (pss_cons (ps_if (pt_cmpR (op_eqD hr.units) (pv 3) (pe_lst pa_nil) (nomark _)) (pss_one (ps_ret (pe_mkH2 c_House (hr.mono (by decide)) (by rfl) (pa_cons (pv 1) (pa_cons (pv 2) pa_nil)) (mon_var (mon_var mon_nil))))) pss_nil)
    (pss_cons (ps_if (pt_cmpR op_eq (pe_cl c__law_take (hr.mono (by decide)) (by rfl) pass0 (pa_cons (pv 0) (pa_cons pe_int pa_nil))) pe_int (nomark _)) (pss_one (ps_ret (pe_mkH3 c_House (hr.mono (by decide)) (by rfl) (pa_cons (pv 1) (pa_cons (pv 2) (pa_cons (pe_callTy c_tuple (by rfl) T.m_tuple (by decide +kernel) (pa_cons (pv 3) pa_nil)) pa_nil))) (mon_var (mon_var (mon_tup mon_nil)))))) pss_nil)
    (pss_one (ps_ret (pe_mkH3 c_House (hr.mono (by decide)) (by rfl) (pa_cons (pv 1) (pa_cons (pv 2) (pa_cons (pe_callTy c_list (by rfl) T.m_list (by decide +kernel) (pa_cons (pv 3) pa_nil)) pa_nil))) (mon_var (mon_var (mon_list mon_nil))))))))) hp
end Hue
end
section
set_option maxHeartbeats 4000000
namespace Hue
open PySem PySem.Spec PyProof.Rows L2
theorem sc_hinit : FnScope N_hinit ["self", "count", "hues", "wires"] (defScope (inClass (top 20) 2)) := ⟨rfl, rfl, rfl, by decide +kernel, rfl, by decide +kernel, by decide +kernel⟩
theorem ok_hinit {P : Program} {w : World} {K : PySem.W.Frag} {mg : Str → Option Value} {base : Heap} {cH cHE : Addr} (T : Txt K mg cH cHE) (D : DefH K mg cH) (c__join_wires : Cal P w K mg base CX0 3 "_join_wires" ["count", "wires"] (sp__join_wires K)) (c__order_list : Cal P w K mg base CX0 1 "_order_list" ["masks"] (sp__order_list K)) (c__turn_round : Cal P w K mg base CX0 2 "_turn_round" ["below"] (sp__turn_round K)) (c_bits : Cal P w K mg base CX0 1 "bits" ["mask"] (sp_bits K)) (c_is_integer : Cal P w K mg base CX0 1 "is_integer" ["value"] (sp_is_integer K))
    (hp : ∀ vs H Q E, sp_hinit K cH vs H Q E → vs.length = 4 ∧ t_hinit K cH { nx := fun _ H' => Q .non H', rt := Q } (start N_hinit vs) H) :
    CalH P w K mg base cH 4 :=
  cal_mkH (t_hinit K cH) D sc_hinit (fun f cdv A outer s H E hr => (pss_cons (ps_if (PW.pt (pw_or (pt_not (pt_val (pe_cl c_is_integer (hr.mono (by decide)) (by rfl) pass0 (pa_cons (pv 1) pa_nil)))) (pw_or1 (pt_not (pt_chain op_le op_le pe_int (pv 1) (ClX.pe_cval (pe_glob (v := .ref cH) (by rfl) T.mgH rfl))))))) pss_never pss_nil)
    (pss_cons (ps_if (PW.pt (pw_or (pt_not (pt_val (pe_cl c_is_integer (hr.mono (by decide)) (by rfl) pass0 (pa_cons (pv 2) pa_nil)))) (pw_or1 (pt_not (pt_chain op_le op_le pe_int (pv 2) (ClX.pe_cval (pe_glob (v := .ref cH) (by rfl) T.mgH rfl))))))) pss_never pss_nil)
    (pss_cons (ps_fld (pv 0) (pe_cl c__join_wires (hr.mono (by decide)) (by rfl) pass0 (pa_cons (pv 1) (pa_cons (pv 3) pa_nil))) rfl)
    (pss_cons (ps_fld (pv 0) (pe_cl c__turn_round (hr.mono (by decide)) (by rfl) pass0 (pa_cons (pe_fld (pv 0) rfl) pa_nil)) rfl)
    (pss_cons (ps_fld (pv 0) (pe_lc (own := [("mask", 6)]) rfl sc_hinit.nd (pi_list (pe_fld (pv 0) rfl)) (blkOk_by (own := [("mask", 6)]) (N := N_hinit) (sc := (defScope (inClass (top 20) 2))) (by decide +kernel)) (fun _ _ _ _ _ => (pg_name (i := 6) sc_hinit.nd rfl (Or.inl rfl))) (fun _ _ _ _ _ => pts_nil) (fun _ _ _ _ _ => (pe_cl c_bits (hr.mono (by decide)) (by rfl) pass0 (pa_cons (pv 6) pa_nil)))) rfl)
    (pss_cons (ps_fld (pv 0) (pe_lc (own := [("mask", 6)]) rfl sc_hinit.nd (pi_list (pe_fld (pv 0) rfl)) (blkOk_by (own := [("mask", 6)]) (N := N_hinit) (sc := (defScope (inClass (top 20) 2))) (by decide +kernel)) (fun _ _ _ _ _ => (pg_name (i := 6) sc_hinit.nd rfl (Or.inl rfl))) (fun _ _ _ _ _ => pts_nil) (fun _ _ _ _ _ => (pe_cl c_bits (hr.mono (by decide)) (by rfl) pass0 (pa_cons (pv 6) pa_nil)))) rfl)
    (pss_cons (ps_fld (pv 0) (pe_cl c__order_list (hr.mono (by decide)) (by rfl) pass0 (pa_cons (pe_fld (pv 0) rfl) pa_nil)) rfl)
    (pss_cons (ps_fld (pv 0) (pv 1) rfl)
    (pss_cons (ps_fld (pv 0) (pv 2) rfl)
    (pss_cons (ps_fld (pv 0) (pe_callTy c_tuple (by rfl) T.m_tuple (by decide +kernel) (pa_cons (pe_callB c_srt (by rfl) T.m_sorted (by decide +kernel) (pa_cons (pv 3) pa_nil)) pa_nil)) rfl)
    (pss_cons (ps_fld (pv 0) (pe_lc (own := [("_", 7)]) rfl sc_hinit.nd (pi_range1 rfl T.m_range (pa_cons (pv 1) pa_nil)) (blkOk_by (own := [("_", 7)]) (N := N_hinit) (sc := (defScope (inClass (top 20) 2))) (by decide +kernel)) (fun _ _ _ _ _ => (pg_name (i := 7) sc_hinit.nd rfl (Or.inl rfl))) (fun _ _ _ _ _ => pts_nil) (fun _ _ _ _ _ => (pe_lst pa_nil))) rfl)
    (pss_one (ps_for PassesOwn.never rfl (pi_tup (pe_fld (pv 0) rfl)) (pg_tup rfl (pgs_cons (pg_name (i := 4) sc_hinit.nd rfl (Or.inl rfl)) (pgs_cons (pg_name (i := 5) sc_hinit.nd rfl (Or.inl rfl)) pgs_nil)))
    (pss_one (ps_expr (pe_bm PySem.F.plainAttrs_list PySem.F.slot_list_append PySem.F.type_list_append mt_append (pe_ix ix_list (pe_fld (pv 0) rfl) (pv 4) (fun _ _ => rfl)) (pa_cons (pv 5) pa_nil)))))))))))))))))) hp
end Hue
end
section
set_option maxHeartbeats 4000000
namespace Hue
open PySem PySem.Spec PyProof.Rows L2
theorem sc__law_swaps : FnScope N__law_swaps ["_law_below_here", "_law_lamps_here"] (defScope (top 64)) := ⟨rfl, rfl, rfl, by decide +kernel, rfl, by decide +kernel, by decide +kernel⟩
theorem ok__law_swaps {P : Program} {w : World} {K : PySem.W.Frag} {mg : Str → Option Value} {base : Heap} {cH cHE : Addr} (T : Txt K mg cH cHE) (D : Def K mg 64 "_law_swaps") (c__law_neighbours : Cal P w K mg base CX0 2 "_law_neighbours" ["_law_below_here", "_law_lamps_here"] (sp__law_neighbours K))
    (hp : ∀ vs H Q E, sp__law_swaps K vs H Q E → vs.length = 2 ∧ t__law_swaps K { nx := fun _ H' => Q .non H', rt := Q } (start N__law_swaps vs) H) :
    Cal P w K mg base CX0 3 "_law_swaps" ["_law_below_here", "_law_lamps_here"] (sp__law_swaps K) :=
  cal_mk (t__law_swaps K) D sc__law_swaps (fun _ _ _ _ _ _ us hl => match us, hl with | [_, _], _ => rfl) (fun f cdv A outer s H E hr => (pss_cons (ps_set (i := 2) sc__law_swaps.nd rfl (Or.inl rfl) (pe_disp1 (hu_of hr) (pe_callTy c_tuple (by rfl) T.m_tuple (by decide +kernel) (pa_cons (pv 1) pa_nil)) pe_bl))
    (pss_cons (ps_set (i := 3) sc__law_swaps.nd rfl (Or.inl rfl) (pe_lst (pa_cons (pv 1) pa_nil)))
    (pss_cons (ps_for PassesOwn.never rfl (pi_range1 rfl T.m_range (pa_cons pe_int pa_nil)) (pg_name (i := 4) sc__law_swaps.nd rfl (Or.inl rfl))
    (pss_cons (ps_set (i := 5) sc__law_swaps.nd rfl (Or.inl rfl) (pe_lst pa_nil))
    (pss_cons (ps_for PassesOwn.never rfl (pi_list (pv 3)) (pg_name (i := 6) sc__law_swaps.nd rfl (Or.inl rfl))
    (pss_one (ps_for PassesOwn.never rfl (pi_list (pe_cl c__law_neighbours (hr.mono (by decide)) (by rfl) pass0 (pa_cons (pv 0) (pa_cons (pv 6) pa_nil)))) (pg_name (i := 7) sc__law_swaps.nd rfl (Or.inl rfl))
    (pss_one (ps_if (pt_cmp (pc_dnotin (hu_of hr) (pe_callTy c_tuple (by rfl) T.m_tuple (by decide +kernel) (pa_cons (pv 7) pa_nil)) (pv 2)) (by rfl)) (pss_cons (ps_dput (hu_of hr) (pv 2) (pe_callTy c_tuple (by rfl) T.m_tuple (by decide +kernel) (pa_cons (pv 7) pa_nil)) pe_bl rfl)
    (pss_one (ps_expr (pe_bm PySem.F.plainAttrs_list PySem.F.slot_list_append PySem.F.type_list_append mt_append (pv 5) (pa_cons (pv 7) pa_nil))))) pss_nil)))))
    (pss_one (ps_set (i := 3) sc__law_swaps.nd rfl (Or.inl rfl) (pv 5))))))
    (pss_one (ps_ret (pe_lock (pe_lc (own := [("_law_key", 8)]) rfl sc__law_swaps.nd (pi_keys (pv 2)) (blkOk_by (own := [("_law_key", 8)]) (N := N__law_swaps) (sc := (defScope (top 64))) (by decide +kernel)) (fun _ _ _ _ _ => (pg_name (i := 8) sc__law_swaps.nd rfl (Or.inl rfl))) (fun _ _ _ _ _ => pts_nil) (fun _ _ _ _ _ => (pe_callTy c_list (by rfl) T.m_list (by decide +kernel) (pa_cons (pv 8) pa_nil))))))))))) hp
end Hue
end
section
set_option maxHeartbeats 4000000
namespace Hue
open PySem PySem.Spec PyProof.Rows L2
theorem sc__law_short : FnScope N__law_short ["_law_box_here", "_law_world_here", "_law_lamps_here"] (defScope (top 74)) := ⟨rfl, rfl, rfl, by decide +kernel, rfl, by decide +kernel, by decide +kernel⟩
theorem ok__law_short {P : Program} {w : World} {K : PySem.W.Frag} {mg : Str → Option Value} {base : Heap} {cH cHE : Addr} (T : Txt K mg cH cHE) (D : Def K mg 74 "_law_short") (c__law_form : Cal P w K mg base CX0 7 "_law_form" ["_law_house_here", "_law_lamps_here", "_law_due"] (sp__law_form K)) (c__law_listing : Cal P w K mg base CX0 7 "_law_listing" ["_law_house_here", "_law_below_here", "_law_lamps_here"] (sp__law_listing K)) (c__law_other : Cal P w K mg base CX0 4 "_law_other" ["_law_box_here", "_law_below_here", "_law_lamps_here"] (sp__law_other K)) (c__law_pair : Cal P w K mg base CX0 8 "_law_pair" ["_law_house_here", "_law_first", "_law_second_here", "_law_due"] (sp__law_pair K)) (c__law_played : Cal P w K mg base CX0 7 "_law_played" ["_law_world_here", "_law_lamps_here", "_law_other_here"] (sp__law_played K)) (c__law_swaps : Cal P w K mg base CX0 3 "_law_swaps" ["_law_below_here", "_law_lamps_here"] (sp__law_swaps K)) (c__law_take : Cal P w K mg base CX0 2 "_law_take" ["_law_box_here", "_law_many"] (sp__law_take K))
    (hp : ∀ vs H Q E, sp__law_short K vs H Q E → vs.length = 3 ∧ t__law_short K { nx := fun _ H' => Q .non H', rt := Q } (start N__law_short vs) H) :
    Cal P w K mg base CX0 9 "_law_short" ["_law_box_here", "_law_world_here", "_law_lamps_here"] (sp__law_short K) :=
  cal_mk (t__law_short K) D sc__law_short (fun _ _ _ _ _ _ us hl => match us, hl with | [_, _, _], _ => rfl) (fun f cdv A outer s H E hr => (pss_cons (ps_asg (pv 1) (pg_tup rfl (pgs_cons (pg_name (i := 3) sc__law_short.nd rfl (Or.inl rfl)) (pgs_cons (pg_name (i := 4) sc__law_short.nd rfl (Or.inl rfl)) (pgs_cons (pg_name (i := 5) sc__law_short.nd rfl (Or.inl rfl)) (pgs_cons (pg_name (i := 6) sc__law_short.nd rfl (Or.inl rfl)) pgs_nil))))))
    (pss_cons (ps_set (i := 7) sc__law_short.nd rfl (Or.inl rfl) (pe_cl c__law_swaps (hr.mono (by decide)) (by rfl) pass0 (pa_cons (pv 5) (pa_cons (pv 2) pa_nil))))
    (pss_cons (ps_set (i := 8) sc__law_short.nd rfl (Or.inl rfl) (pe_callB (c_minL rfl hr) (by rfl) T.m_min (by decide +kernel) (pa_cons (pv 7) pa_nil)))
    (pss_cons (ps_if (PW.pt (pw_or (pt_not (pt_val (pe_cl c__law_form (hr.mono (by decide)) (by rfl) pass0 (pa_cons (pv 3) (pa_cons (pv 2) (pa_cons (pv 8) pa_nil)))))) (pw_or1 (pt_not (pt_val (pe_cl c__law_played (hr.mono (by decide)) (by rfl) pass0 (pa_cons (pv 1) (pa_cons (pv 2) (pa_cons (pv 8) pa_nil))))))))) (pss_one (ps_ret pe_bl)) pss_nil)
    (pss_cons (ps_for PassesOwn.never rfl (pi_range1 rfl T.m_range (pa_cons pe_int pa_nil)) (pg_name (i := 9) sc__law_short.nd rfl (Or.inl rfl))
    (pss_cons (ps_set (i := 10) sc__law_short.nd rfl (Or.inl rfl) (pe_ix ix_list (pv 7) (pe_cl c__law_take (hr.mono (by decide)) (by rfl) pass0 (pa_cons (pv 0) (pa_cons (pe_callB c_len (by rfl) T.m_len (by decide +kernel) (pa_cons (pv 7) pa_nil)) pa_nil))) (fun _ _ => rfl)))
    (pss_cons (ps_if (PW.pt (pw_or (pt_not (pt_val (pe_cl c__law_form (hr.mono (by decide)) (by rfl) pass0 (pa_cons (pv 3) (pa_cons (pv 10) (pa_cons (pv 8) pa_nil)))))) (pw_or1 (pt_not (pt_val (pe_cl c__law_pair (hr.mono (by decide)) (by rfl) pass0 (pa_cons (pv 3) (pa_cons (pv 2) (pa_cons (pv 10) (pa_cons pe_bl pa_nil)))))))))) (pss_one (ps_ret pe_bl)) pss_nil)
    (pss_cons (ps_if (PW.pt (pw_or (pt_not (pt_val (pe_cl c__law_listing (hr.mono (by decide)) (by rfl) pass0 (pa_cons (pv 3) (pa_cons (pv 5) (pa_cons (pv 10) pa_nil)))))) (pw_or1 (pt_not (pt_val (pe_cl c__law_played (hr.mono (by decide)) (by rfl) pass0 (pa_cons (pv 1) (pa_cons (pv 2) (pa_cons (pv 10) pa_nil))))))))) (pss_one (ps_ret pe_bl)) pss_nil)
    (pss_cons (ps_set (i := 11) sc__law_short.nd rfl (Or.inl rfl) (pe_cl c__law_other (hr.mono (by decide)) (by rfl) pass0 (pa_cons (pv 0) (pa_cons (pv 5) (pa_cons (pv 2) pa_nil)))))
    (pss_one (ps_if (pt_not (pt_val (pe_cl c__law_pair (hr.mono (by decide)) (by rfl) pass0 (pa_cons (pv 3) (pa_cons (pv 2) (pa_cons (pv 11) (pa_cons (pe_cmpR (op_inD (hu65 hr)) (pv 11) (pv 7) (by rfl)) pa_nil))))))) (pss_one (ps_ret pe_bl)) pss_nil)))))))
    (pss_one (ps_ret (pe_cl c__law_listing (hr.mono (by decide)) (by rfl) pass0 (pa_cons (pv 3) (pa_cons (pv 5) (pa_cons (pv 2) pa_nil)))))))))))) hp
end Hue
end
section
set_option maxHeartbeats 4000000
namespace Hue
open PySem PySem.Spec PyProof.Rows L2
theorem sc__law_faults : FnScope N__law_faults ["_law_box_here", "_law_house_here", "_law_count", "_law_lamps_here"] (defScope (top 77)) := ⟨rfl, rfl, rfl, by decide +kernel, rfl, by decide +kernel, by decide +kernel⟩
theorem ok__law_faults {P : Program} {w : World} {K : PySem.W.Frag} {mg : Str → Option Value} {base : Heap} {cH cHE : Addr} (T : Txt K mg cH cHE) (D : Def K mg 77 "_law_faults") (c__law_fault : CalG P w K mg base CX0 8 "_law_fault" ["_law_house_here", "_law_first", "_law_second_here", "_law_way"] (sp__law_fault K)) (c__law_odd_lamp : Cal P w K mg base CX0 3 "_law_odd_lamp" ["_law_box_here", "_law_count"] (sp__law_odd_lamp K)) (c__law_take : Cal P w K mg base CX0 2 "_law_take" ["_law_box_here", "_law_many"] (sp__law_take K))
    (hp : ∀ vs H Q E, sp__law_faults K vs H Q E → vs.length = 4 ∧ t__law_faults K { nx := fun _ H' => Q .non H', rt := Q } (start N__law_faults vs) H) :
    CalG P w K mg base CX0 9 "_law_faults" ["_law_box_here", "_law_house_here", "_law_count", "_law_lamps_here"] (sp__law_faults K) :=
  cal_mkG (t__law_faults K) D sc__law_faults (fun _ _ _ _ _ _ us hl => match us, hl with | [_, _, _, _], _ => rfl) (fun f cdv A outer s H E hr hgd => (pss_cons (ps_set (i := 4) sc__law_faults.nd rfl (Or.inl rfl) (pe_cl c__law_odd_lamp (hr.mono (by decide)) (by rfl) pass0 (pa_cons (pv 0) (pa_cons (pv 2) pa_nil))))
    (pss_cons (ps_set (i := 5) sc__law_faults.nd rfl (Or.inl rfl) (pe_cl c__law_odd_lamp (hr.mono (by decide)) (by rfl) pass0 (pa_cons (pv 0) (pa_cons (pv 2) pa_nil))))
    (pss_cons (ps_set (i := 6) sc__law_faults.nd rfl (Or.inl rfl) (pe_cl c__law_take (hr.mono (by decide)) (by rfl) pass0 (pa_cons (pv 0) (pa_cons (pe_op op_add (pe_callB c_len (by rfl) T.m_len (by decide +kernel) (pa_cons (pv 3) pa_nil)) pe_int) pa_nil))))
    (pss_cons (ps_set (i := 7) sc__law_faults.nd rfl (Or.inl rfl) (pe_op op_cat (pe_op op_cat (pe_op op_cat (pe_slice sl_list (pv 3) po_none (po_some (pv 6))) (pe_lst (pa_cons (pv 4) pa_nil))) (pe_slice sl_list (pv 3) (po_some (pv 6)) po_none)) (pe_lst (pa_cons (pv 5) pa_nil))))
    (pss_cons (ps_for PassesOwn.never rfl (pi_range1 rfl T.m_range (pa_cons pe_int pa_nil)) (pg_name (i := 8) sc__law_faults.nd rfl (Or.inl rfl))
    (pss_one (ps_if (pt_cmpR (op_neD hr.units) (pe_clG c__law_fault (hr.mono (by decide)) hgd (by rfl) pass0 (pa_cons (pv 1) (pa_cons (pe_callTy c_list (by rfl) T.m_list (by decide +kernel) (pa_cons (pv 7) pa_nil)) (pa_cons (pe_callTy c_list (by rfl) T.m_list (by decide +kernel) (pa_cons (pv 3) pa_nil)) (pa_cons (pv 8) pa_nil))))) (pe_tup (pa_cons pe_int (pa_cons (pe_callB (c_repr hgd (hu65 hr)) (by rfl) T.m_repr (by decide +kernel) (pa_cons (pv 4) pa_nil)) pa_nil))) (nomark _)) (pss_one (ps_ret pe_bl)) pss_nil)))
    (pss_cons (ps_if (pt_cmpR (op_neD hr.units) (pe_clG c__law_fault (hr.mono (by decide)) hgd (by rfl) pass0 (pa_cons (pv 1) (pa_cons (pe_callTy c_list (by rfl) T.m_list (by decide +kernel) (pa_cons (pv 7) pa_nil)) (pa_cons (pe_lst (pa_cons (pv 5) pa_nil)) (pa_cons pe_int pa_nil))))) (pe_tup (pa_cons pe_int (pa_cons (pe_callB (c_repr hgd (hu65 hr)) (by rfl) T.m_repr (by decide +kernel) (pa_cons (pv 4) pa_nil)) pa_nil))) (nomark _)) (pss_one (ps_ret pe_bl)) pss_nil)
    (pss_one (ps_ret (pe_cmpR (op_eqD hr.units) (pe_clG c__law_fault (hr.mono (by decide)) hgd (by rfl) pass0 (pa_cons (pv 1) (pa_cons (pe_callTy c_list (by rfl) T.m_list (by decide +kernel) (pa_cons (pv 3) pa_nil)) (pa_cons (pe_callTy c_list (by rfl) T.m_list (by decide +kernel) (pa_cons (pv 7) pa_nil)) (pa_cons pe_int pa_nil))))) (pe_tup (pa_cons pe_int (pa_cons (pe_callB (c_repr hgd (hu65 hr)) (by rfl) T.m_repr (by decide +kernel) (pa_cons (pv 4) pa_nil)) pa_nil))) (nomark _))))))))))) hp
theorem sc_law : FnScope N_law ["_law_script"] (defScope (top 78)) := ⟨rfl, rfl, rfl, by decide +kernel, rfl, by decide +kernel, by decide +kernel⟩
theorem ok_law {P : Program} {w : World} {K : PySem.W.Frag} {mg : Str → Option Value} {base : Heap} {cH cHE : Addr} (T : Txt K mg cH cHE) (D : Def K mg 78 "law") (c__law_box : Cal P w K mg base CX0 1 "_law_box" ["_law_script"] (sp__law_box K)) (c__law_faults : CalG P w K mg base CX0 9 "_law_faults" ["_law_box_here", "_law_house_here", "_law_count", "_law_lamps_here"] (sp__law_faults K)) (c__law_lamps : Cal P w K mg base CX0 3 "_law_lamps" ["_law_box_here", "_law_world_here", "_law_most"] (sp__law_lamps K)) (c__law_long : Cal P w K mg base CX0 9 "_law_long" ["_law_box_here", "_law_world_here", "_law_lamps_here"] (sp__law_long K)) (c__law_plan : Cal P w K mg base CX0 4 "_law_plan" ["_law_box_here"] (sp__law_plan K)) (c__law_second : Cal P w K mg base CX0 5 "_law_second" ["_law_box_here", "_law_plan_here"] (sp__law_second K)) (c__law_short : Cal P w K mg base CX0 9 "_law_short" ["_law_box_here", "_law_world_here", "_law_lamps_here"] (sp__law_short K)) (c__law_take : Cal P w K mg base CX0 2 "_law_take" ["_law_box_here", "_law_many"] (sp__law_take K)) (c__law_world : Cal P w K mg base CX0 7 "_law_world" ["_law_box_here", "_law_plan_here"] (sp__law_world K))
    (hp : ∀ vs H Q E, sp_law K vs H Q E → vs.length = 1 ∧ t_law K { nx := fun _ H' => Q .non H', rt := Q } (start N_law vs) H) :
    CalG P w K mg base CX0 10 "law" ["_law_script"] (sp_law K) :=
  cal_mkG (t_law K) D sc_law (fun _ _ _ _ _ _ us hl => match us, hl with | [_], _ => rfl) (fun f cdv A outer s H E hr hgd => (pss_cons (ps_set (i := 1) sc_law.nd rfl (Or.inl rfl) (pe_cl c__law_box (hr.mono (by decide)) (by rfl) pass0 (pa_cons (pv 0) pa_nil)))
    (pss_cons (ps_set (i := 2) sc_law.nd rfl (Or.inl rfl) (pe_cl c__law_plan (hr.mono (by decide)) (by rfl) pass0 (pa_cons (pv 1) pa_nil)))
    (pss_cons (ps_set (i := 3) sc_law.nd rfl (Or.inl rfl) (pe_cl c__law_world (hr.mono (by decide)) (by rfl) pass0 (pa_cons (pv 1) (pa_cons (pv 2) pa_nil))))
    (pss_cons (ps_set (i := 4) sc_law.nd rfl (Or.inl rfl) (pe_cl c__law_world (hr.mono (by decide)) (by rfl) pass0 (pa_cons (pv 1) (pa_cons (pe_cl c__law_second (hr.mono (by decide)) (by rfl) pass0 (pa_cons (pv 1) (pa_cons (pv 2) pa_nil))) pa_nil))))
    (pss_cons (ps_for PassesOwn.never rfl (pi_tup (pe_tup (pa_cons (pv 3) (pa_cons (pv 4) pa_nil)))) (pg_name (i := 5) sc_law.nd rfl (Or.inl rfl))
    (pss_cons (ps_if (pt_not (pt_val (pe_cl c__law_short (hr.mono (by decide)) (by rfl) pass0 (pa_cons (pv 1) (pa_cons (pv 5) (pa_cons (pe_cl c__law_lamps (hr.mono (by decide)) (by rfl) pass0 (pa_cons (pv 1) (pa_cons (pv 5) (pa_cons pe_int pa_nil)))) pa_nil)))))) (pss_one (ps_ret pe_bl)) pss_nil)
    (pss_cons (ps_set (i := 6) sc_law.nd rfl (Or.inl rfl) (pe_cl c__law_lamps (hr.mono (by decide)) (by rfl) pass0 (pa_cons (pv 1) (pa_cons (pv 5) (pa_cons (pe_ifExp (pt_cmpR op_eq (pe_cl c__law_take (hr.mono (by decide)) (by rfl) pass0 (pa_cons (pv 1) (pa_cons pe_int pa_nil))) pe_int (nomark _)) pe_int pe_int) pa_nil)))))
    (pss_one (ps_if (PW.pt (pw_or (pt_not (pt_val (pe_cl c__law_long (hr.mono (by decide)) (by rfl) pass0 (pa_cons (pv 1) (pa_cons (pv 5) (pa_cons (pv 6) pa_nil)))))) (pw_or1 (pt_not (pt_val (pe_clG c__law_faults (hr.mono (by decide)) hgd (by rfl) pass0 (pa_cons (pv 1) (pa_cons (pe_ix ix_tup (pv 5) pe_int (fun _ _ => rfl)) (pa_cons (pe_callB c_len (by rfl) T.m_len (by decide +kernel) (pa_cons (pe_ix ix_tup (pv 5) pe_int (fun _ _ => rfl)) pa_nil)) (pa_cons (pv 6) pa_nil)))))))))) (pss_one (ps_ret pe_bl)) pss_nil)))))
    (pss_one (ps_ret pe_bl)))))))) hp
end Hue
end
section
set_option maxHeartbeats 4000000
namespace Hue
open PySem PySem.Spec PyProof.Rows L2
theorem sc__law_fault : FnScope N__law_fault ["_law_house_here", "_law_first", "_law_second_here", "_law_way"] (defScope (top 76)) := ⟨rfl, rfl, rfl, by decide +kernel, rfl, by decide +kernel, by decide +kernel⟩
theorem ok__law_fault {P : Program} {w : World} {K : PySem.W.Frag} {mg : Str → Option Value} {base : Heap} {cH cHE : Addr} (T : Txt K mg cH cHE) (FX : FxX P K mg cHE) (D : Def K mg 76 "_law_fault") (c_is_swap : Cal P w K mg base (L2.CX P w) 7 "is_swap" ["house", "first", "second"] (sp_is_swap K)) (c_sorted_form : Cal P w K mg base (L2.CX P w) 6 "sorted_form" ["house", "run"] (sp_sorted_form K)) (c_neighbours : Cal P w K mg base (L2.CX P w) 6 "neighbours" ["house", "run"] (sp_neighbours K)) :
    CalG P w K mg base CX0 8 "_law_fault" ["_law_house_here", "_law_first", "_law_second_here", "_law_way"] (sp__law_fault K) := by
  obtain ⟨C, hmC, F⟩ := FX.ex
  exact cal_mkG (t__law_fault K C cHE) D sc__law_fault (fun _ _ _ _ _ _ us hl => match us, hl with | [_, _, _, _], _ => rfl) (fun f cdv A outer s H E hr hgd => (pss_cons (ps_try_as rfl rfl sc__law_fault.nd (by rfl) (by rfl) ⟨by rfl, by decide, .inl hmC⟩ takes0
      (fun W pn xe tk ps => (pss_cons (ps_if (pt_cmpR op_eq (pv 3) pe_int (nomark _)) (pss_one (ps_expr (pe_clS c_is_swap (hr.mono (by decide)) (by rfl) (passAt tk) (pa_cons (pv 0) (pa_cons (pv 1) (pa_cons (pv 2) pa_nil)))))) pss_nil)
        (pss_cons (ps_if (pt_cmpR op_eq (pv 3) pe_int (nomark _)) (pss_one (ps_expr (pe_clS c_sorted_form (hr.mono (by decide)) (by rfl) (passAt tk) (pa_cons (pv 0) (pa_cons (pv 1) pa_nil))))) pss_nil)
        (pss_one (ps_if (pt_cmpR op_eq (pv 3) pe_int (nomark _)) (pss_one (ps_expr (pe_clS c_neighbours (hr.mono (by decide)) (by rfl) (passAt tk) (pa_cons (pv 0) (pa_cons (pv 1) pa_nil))))) pss_nil)))))
      (fun a oe cls d pn hz hf => pss_one (ps_ret (pe_tup (pa_cons (pe_ifExp (pt_val (pe_callB (call_isX F hz hf) (by rfl) T.m_isinstance (by decide +kernel) (pa_cons (pv 4) (pa_cons (pe_glob (by rfl) T.mgHE rfl) pa_nil)))) pe_int pe_int) (pa_cons (pe_callB (c_repr hgd (show (A.deeper (envOfC "_law_fault" (defScope (top 76)) s.heap.objs.size f cdv)).units + 65 < cLine from hu65 hr)) (by rfl) T.m_repr (by decide +kernel) (pa_cons (pe_xf F.xf F.noL hz hf (pv 4)) pa_nil)) pa_nil))))))
    (pss_one (ps_ret (pe_tup (pa_cons pe_int (pa_cons pe_str pa_nil))))))) (p__law_fault F)
end Hue
end
section
set_option maxHeartbeats 4000000
namespace Hue
open PySem PySem.Spec PyProof.Rows L2
/-- the defs of the law, as the written part has them -/
structure Defs (K : PySem.W.Frag) : Prop where
  d_is_integer : DefW K 10 "is_integer"
  d_is_lamp : DefW K 11 "is_lamp"
  d_bits : DefW K 12 "bits"
  d_below_masks : DefW K 13 "below_masks"
  d_above_masks : DefW K 14 "above_masks"
  d__is_wire : DefW K 16 "_is_wire"
  d__join_wires : DefW K 17 "_join_wires"
  d__turn_round : DefW K 18 "_turn_round"
  d__order_list : DefW K 19 "_order_list"
  d_is_state : DefW K 22 "is_state"
  d_turned_down : DefW K 23 "turned_down"
  d_need_lamp : DefW K 25 "need_lamp"
  d_need_state : DefW K 26 "need_state"
  d_need_run : DefW K 27 "need_run"
  d_lit_beneath : DefW K 29 "lit_beneath"
  d_moved : DefW K 30 "moved"
  d_can_move : DefW K 31 "can_move"
  d_refuse : DefW K 32 "refuse"
  d_play : DefW K 34 "play"
  d_first_refused : DefW K 35 "first_refused"
  d_counts_of : DefW K 36 "counts_of"
  d_comparable_lamps : DefW K 38 "comparable_lamps"
  d_moves_at : DefW K 39 "moves_at"
  d_is_swap : DefW K 40 "is_swap"
  d_next_sorted : DefW K 41 "next_sorted"
  d_sorted_form : DefW K 42 "sorted_form"
  d_neighbours : DefW K 43 "neighbours"
  d__law_box : DefW K 45 "_law_box"
  d__law_mixed : DefW K 46 "_law_mixed"
  d__law_take : DefW K 47 "_law_take"
  d__law_line : DefW K 48 "_law_line"
  d__law_wires : DefW K 49 "_law_wires"
  d__law_below : DefW K 50 "_law_below"
  d__law_house : DefW K 51 "_law_house"
  d__law_state : DefW K 52 "_law_state"
  d__law_step : DefW K 53 "_law_step"
  d__law_same : DefW K 54 "_law_same"
  d__law_listed : DefW K 55 "_law_listed"
  d__law_plan : DefW K 56 "_law_plan"
  d__law_second : DefW K 57 "_law_second"
  d__law_world : DefW K 58 "_law_world"
  d__law_odd_lamp : DefW K 59 "_law_odd_lamp"
  d__law_wrong : DefW K 60 "_law_wrong"
  d__law_lamps : DefW K 61 "_law_lamps"
  d__law_apart : DefW K 62 "_law_apart"
  d__law_neighbours : DefW K 63 "_law_neighbours"
  d__law_swaps : DefW K 64 "_law_swaps"
  d__law_agree : DefW K 65 "_law_agree"
  d__law_sorted : DefW K 66 "_law_sorted"
  d__law_shuffled : DefW K 67 "_law_shuffled"
  d__law_other : DefW K 68 "_law_other"
  d__law_rows : DefW K 69 "_law_rows"
  d__law_listing : DefW K 70 "_law_listing"
  d__law_form : DefW K 71 "_law_form"
  d__law_pair : DefW K 72 "_law_pair"
  d__law_played : DefW K 73 "_law_played"
  d__law_short : DefW K 74 "_law_short"
  d__law_long : DefW K 75 "_law_long"
  d__law_fault : DefW K 76 "_law_fault"
  d__law_faults : DefW K 77 "_law_faults"
  d_law : DefW K 78 "law"
theorem join {P : Program} {w : World} {K : PySem.W.Frag} {mg : Str → Option Value} {base h : Heap} {cH cHE : Addr} (X : K.In h) (G : h.Ns mainGlobals mg) (T : Txt K mg cH cHE) (IL : IlX P K mg) (FX : FxX P K mg cHE) (DH : DefH K mg cH) (W : Defs K) : CalG P w K mg base CX0 10 "law" ["_law_script"] (sp_law K) := by
  have c__law_box : Cal P w K mg base CX0 1 "_law_box" ["_law_script"] (sp__law_box K) := ok__law_box T (W.d__law_box.d X G) p__law_box
  have c_below_masks : Cal P w K mg base CX0 1 "below_masks" ["house"] (sp_below_masks K) := ok_below_masks T (W.d_below_masks.d X G) p_below_masks
  have c_bits : Cal P w K mg base CX0 1 "bits" ["mask"] (sp_bits K) := ok_bits T (W.d_bits.d X G) p_bits
  have c_is_integer : Cal P w K mg base CX0 1 "is_integer" ["value"] (sp_is_integer K) := ok_is_integer T (W.d_is_integer.d X G) p_is_integer
  have c_is_lamp : Cal P w K mg base CX0 2 "is_lamp" ["house", "value"] (sp_is_lamp K) := ok_is_lamp T (W.d_is_lamp.d X G) c_is_integer p_is_lamp
  have c_need_lamp : Cal P w K mg base (L2.CX P w) 4 "need_lamp" ["house", "value"] (sp_need_lamp K) := ok_need_lamp T IL (W.d_need_lamp.d X G) c_is_lamp p_need_lamp
  have c_need_run : Cal P w K mg base (L2.CX P w) 5 "need_run" ["house", "run"] (sp_need_run K) := ok_need_run T (W.d_need_run.d X G) c_need_lamp p_need_run
  have c_counts_of : Cal P w K mg base CX0 6 "counts_of" ["house", "run"] (sp_counts_of K) := ok_counts_of T (W.d_counts_of.d X G) c_need_run p_counts_of
  have c_moves_at : Cal P w K mg base CX0 1 "moves_at" ["run", "upper", "lower"] (sp_moves_at K) := ok_moves_at T (W.d_moves_at.d X G) p_moves_at
  have c_is_swap : Cal P w K mg base (L2.CX P w) 7 "is_swap" ["house", "first", "second"] (sp_is_swap K) := ok_is_swap T (W.d_is_swap.d X G) c_below_masks c_bits c_counts_of c_moves_at c_need_run p_is_swap
  have c_above_masks : Cal P w K mg base CX0 1 "above_masks" ["house"] (sp_above_masks K) := ok_above_masks T (W.d_above_masks.d X G) p_above_masks
  have c_comparable_lamps : Cal P w K mg base CX0 2 "comparable_lamps" ["house"] (sp_comparable_lamps K) := ok_comparable_lamps T (W.d_comparable_lamps.d X G) c_above_masks c_below_masks c_bits p_comparable_lamps
  have c_next_sorted : Cal P w K mg base CX0 1 "next_sorted" ["heads", "comparable", "end"] (sp_next_sorted K) := ok_next_sorted T (W.d_next_sorted.d X G) p_next_sorted
  have c_sorted_form : Cal P w K mg base (L2.CX P w) 6 "sorted_form" ["house", "run"] (sp_sorted_form K) := ok_sorted_form T (W.d_sorted_form.d X G) c_comparable_lamps c_need_run c_next_sorted p_sorted_form
  have c_neighbours : Cal P w K mg base (L2.CX P w) 6 "neighbours" ["house", "run"] (sp_neighbours K) := ok_neighbours T (W.d_neighbours.d X G) c_comparable_lamps c_need_run p_neighbours
  have c__law_fault : CalG P w K mg base CX0 8 "_law_fault" ["_law_house_here", "_law_first", "_law_second_here", "_law_way"] (sp__law_fault K) := ok__law_fault T FX (W.d__law_fault.d X G) c_is_swap c_sorted_form c_neighbours
  have c__law_mixed : Cal P w K mg base CX0 1 "_law_mixed" ["_law_seed", "_law_turn"] (sp__law_mixed K) := ok__law_mixed T (W.d__law_mixed.d X G) p__law_mixed
  have c__law_take : Cal P w K mg base CX0 2 "_law_take" ["_law_box_here", "_law_many"] (sp__law_take K) := ok__law_take T (W.d__law_take.d X G) c__law_mixed p__law_take
  have c__law_odd_lamp : Cal P w K mg base CX0 3 "_law_odd_lamp" ["_law_box_here", "_law_count"] (sp__law_odd_lamp K) := ok__law_odd_lamp T (W.d__law_odd_lamp.d X G) c__law_take p__law_odd_lamp
  have c__law_faults : CalG P w K mg base CX0 9 "_law_faults" ["_law_box_here", "_law_house_here", "_law_count", "_law_lamps_here"] (sp__law_faults K) := ok__law_faults T (W.d__law_faults.d X G) c__law_fault c__law_odd_lamp c__law_take p__law_faults
  have c__law_step : Cal P w K mg base CX0 1 "_law_step" ["_law_hues", "_law_below_here", "_law_state_here", "_law_lamp"] (sp__law_step K) := ok__law_step T (W.d__law_step.d X G) p__law_step
  have c__law_wrong : Cal P w K mg base CX0 1 "_law_wrong" ["_law_below_here", "_law_state_here", "_law_lamp", "_law_gentle"] (sp__law_wrong K) := ok__law_wrong T (W.d__law_wrong.d X G) p__law_wrong
  have c__law_lamps : Cal P w K mg base CX0 3 "_law_lamps" ["_law_box_here", "_law_world_here", "_law_most"] (sp__law_lamps K) := ok__law_lamps T (W.d__law_lamps.d X G) c__law_step c__law_take c__law_wrong p__law_lamps
  have c__law_apart : Cal P w K mg base CX0 1 "_law_apart" ["_law_below_here", "_law_one", "_law_two"] (sp__law_apart K) := ok__law_apart T (W.d__law_apart.d X G) p__law_apart
  have c__law_agree : Cal P w K mg base CX0 2 "_law_agree" ["_law_below_here", "_law_first", "_law_second_here"] (sp__law_agree K) := ok__law_agree T (W.d__law_agree.d X G) c__law_apart p__law_agree
  have c__law_listed : Cal P w K mg base CX0 1 "_law_listed" ["_law_told", "_law_due"] (sp__law_listed K) := ok__law_listed T (W.d__law_listed.d X G) p__law_listed
  have c__law_form : Cal P w K mg base CX0 7 "_law_form" ["_law_house_here", "_law_lamps_here", "_law_due"] (sp__law_form K) := ok__law_form T (W.d__law_form.d X G) c__law_listed c_sorted_form p__law_form
  have c__law_neighbours : Cal P w K mg base CX0 2 "_law_neighbours" ["_law_below_here", "_law_lamps_here"] (sp__law_neighbours K) := ok__law_neighbours T (W.d__law_neighbours.d X G) c__law_apart p__law_neighbours
  have c__law_rows : Cal P w K mg base CX0 2 "_law_rows" ["_law_told", "_law_due"] (sp__law_rows K) := ok__law_rows T (W.d__law_rows.d X G) c__law_listed p__law_rows
  have c__law_listing : Cal P w K mg base CX0 7 "_law_listing" ["_law_house_here", "_law_below_here", "_law_lamps_here"] (sp__law_listing K) := ok__law_listing T (W.d__law_listing.d X G) c__law_neighbours c__law_rows c_neighbours p__law_listing
  have c__law_shuffled : Cal P w K mg base CX0 3 "_law_shuffled" ["_law_box_here", "_law_below_here", "_law_lamps_here"] (sp__law_shuffled K) := ok__law_shuffled T (W.d__law_shuffled.d X G) c__law_apart c__law_take p__law_shuffled
  have c__law_other : Cal P w K mg base CX0 4 "_law_other" ["_law_box_here", "_law_below_here", "_law_lamps_here"] (sp__law_other K) := ok__law_other T (W.d__law_other.d X G) c__law_shuffled c__law_take p__law_other
  have c__law_pair : Cal P w K mg base CX0 8 "_law_pair" ["_law_house_here", "_law_first", "_law_second_here", "_law_due"] (sp__law_pair K) := ok__law_pair T (W.d__law_pair.d X G) c_is_swap c_sorted_form p__law_pair
  have c__law_same : Cal P w K mg base CX0 1 "_law_same" ["_law_told", "_law_due"] (sp__law_same K) := ok__law_same T (W.d__law_same.d X G) p__law_same
  have c_lit_beneath : Cal P w K mg base CX0 2 "lit_beneath" ["house", "state", "lamp"] (sp_lit_beneath K) := ok_lit_beneath T (W.d_lit_beneath.d X G) c_below_masks c_bits p_lit_beneath
  have c_can_move : Cal P w K mg base CX0 3 "can_move" ["house", "state", "lamp", "careful"] (sp_can_move K) := ok_can_move T (W.d_can_move.d X G) c_lit_beneath p_can_move
  have c_turned_down : Cal P w K mg base CX0 1 "turned_down" ["hue", "hues"] (sp_turned_down K) := ok_turned_down T (W.d_turned_down.d X G) p_turned_down
  have c_moved : Cal P w K mg base CX0 2 "moved" ["house", "state", "lamp"] (sp_moved K) := ok_moved T (W.d_moved.d X G) c_below_masks c_bits c_turned_down p_moved
  have c_is_state : Cal P w K mg base CX0 2 "is_state" ["house", "value"] (sp_is_state K) := ok_is_state T (W.d_is_state.d X G) c_is_integer p_is_state
  have c_need_state : Cal P w K mg base CX0 3 "need_state" ["house", "value"] (sp_need_state K) := ok_need_state T (W.d_need_state.d X G) c_is_state p_need_state
  have c_first_refused : CalK P w K mg base CX0 6 "first_refused" ["house", "state", "run", "careful"] (sp_first_refused K) := ok_first_refused T (W.d_first_refused.d X G) c_can_move c_moved c_need_run c_need_state p_first_refused
  have c_refuse : Cal P w K mg base CX0 3 "refuse" ["house", "state", "lamp", "step", "careful"] (sp_refuse K) := ok_refuse T (W.d_refuse.d X G) c_lit_beneath p_refuse
  have c_play : CalK P w K mg base CX0 6 "play" ["house", "state", "run", "careful"] (sp_play K) := ok_play T (W.d_play.d X G) c_moved c_need_run c_need_state c_refuse p_play
  have c__law_played : Cal P w K mg base CX0 7 "_law_played" ["_law_world_here", "_law_lamps_here", "_law_other_here"] (sp__law_played K) := ok__law_played T (W.d__law_played.d X G) c__law_same c__law_step c__law_wrong c_first_refused c_play p__law_played
  have c__law_sorted : Cal P w K mg base CX0 2 "_law_sorted" ["_law_below_here", "_law_lamps_here"] (sp__law_sorted K) := ok__law_sorted T (W.d__law_sorted.d X G) c__law_apart p__law_sorted
  have c__law_long : Cal P w K mg base CX0 9 "_law_long" ["_law_box_here", "_law_world_here", "_law_lamps_here"] (sp__law_long K) := ok__law_long T (W.d__law_long.d X G) c__law_agree c__law_form c__law_listing c__law_other c__law_pair c__law_played c__law_shuffled c__law_sorted p__law_long
  have c__law_line : Cal P w K mg base CX0 3 "_law_line" ["_law_box_here", "_law_count"] (sp__law_line K) := ok__law_line T (W.d__law_line.d X G) c__law_take p__law_line
  have c__law_state : Cal P w K mg base CX0 3 "_law_state" ["_law_box_here", "_law_count", "_law_hues"] (sp__law_state K) := ok__law_state T (W.d__law_state.d X G) c__law_take p__law_state
  have c__law_wires : Cal P w K mg base CX0 3 "_law_wires" ["_law_box_here", "_law_line_here"] (sp__law_wires K) := ok__law_wires T (W.d__law_wires.d X G) c__law_take p__law_wires
  have c__law_plan : Cal P w K mg base CX0 4 "_law_plan" ["_law_box_here"] (sp__law_plan K) := ok__law_plan T (W.d__law_plan.d X G) c__law_line c__law_state c__law_take c__law_wires p__law_plan
  have c__law_second : Cal P w K mg base CX0 5 "_law_second" ["_law_box_here", "_law_plan_here"] (sp__law_second K) := ok__law_second T (W.d__law_second.d X G) c__law_plan c__law_take p__law_second
  have c__law_swaps : Cal P w K mg base CX0 3 "_law_swaps" ["_law_below_here", "_law_lamps_here"] (sp__law_swaps K) := ok__law_swaps T (W.d__law_swaps.d X G) c__law_neighbours p__law_swaps
  have c__law_short : Cal P w K mg base CX0 9 "_law_short" ["_law_box_here", "_law_world_here", "_law_lamps_here"] (sp__law_short K) := ok__law_short T (W.d__law_short.d X G) c__law_form c__law_listing c__law_other c__law_pair c__law_played c__law_swaps c__law_take p__law_short
  have c__law_below : Cal P w K mg base CX0 1 "_law_below" ["_law_line_here", "_law_wires_here"] (sp__law_below K) := ok__law_below T (W.d__law_below.d X G) p__law_below
  have c__is_wire : Cal P w K mg base CX0 2 "_is_wire" ["count", "value"] (sp__is_wire K) := ok__is_wire T (W.d__is_wire.d X G) c_is_integer p__is_wire
  have c__join_wires : Cal P w K mg base CX0 3 "_join_wires" ["count", "wires"] (sp__join_wires K) := ok__join_wires T (W.d__join_wires.d X G) c__is_wire p__join_wires
  have c__order_list : Cal P w K mg base CX0 1 "_order_list" ["masks"] (sp__order_list K) := ok__order_list T (W.d__order_list.d X G) p__order_list
  have c__turn_round : Cal P w K mg base CX0 2 "_turn_round" ["below"] (sp__turn_round K) := ok__turn_round T (W.d__turn_round.d X G) c_bits p__turn_round
  have c_hinit : CalH P w K mg base cH 4 := ok_hinit T DH c__join_wires c__order_list c__turn_round c_bits c_is_integer p_hinit
  have c__law_house : Cal P w K mg base CX0 6 "_law_house" ["_law_box_here", "_law_count", "_law_hues", "_law_wires_here"] (sp__law_house K) := ok__law_house T (W.d__law_house.d X G) c_hinit c__law_take p__law_house
  have c__law_world : Cal P w K mg base CX0 7 "_law_world" ["_law_box_here", "_law_plan_here"] (sp__law_world K) := ok__law_world T (W.d__law_world.d X G) c__law_below c__law_house p__law_world
  have c_law : CalG P w K mg base CX0 10 "law" ["_law_script"] (sp_law K) := ok_law T (W.d_law.d X G) c__law_box c__law_faults c__law_lamps c__law_long c__law_plan c__law_second c__law_short c__law_take c__law_world p_law
  exact c_law
end Hue
end
section
set_option maxHeartbeats 4000000
namespace Hue
open PySem PySem.Spec PyProof.Rows L2
/-! ### what the written part says, fact by fact -/
section
variable {P : Program} {K : PySem.W.Frag} {h : Heap} {mg : Str → Option Value}
theorem txt_mk {cH cHE : Addr} (X : K.In h) (G : h.Ns mainGlobals mg)
    (n1 : PySem.W.nsIn K mainGlobals "all" = some none) (n2 : PySem.W.nsIn K mainGlobals "bool" = some none) (n3 : PySem.W.nsIn K mainGlobals "enumerate" = some none) (n4 : PySem.W.nsIn K mainGlobals "int" = some none) (n5 : PySem.W.nsIn K mainGlobals "isinstance" = some none)
    (n6 : PySem.W.nsIn K mainGlobals "len" = some none) (n7 : PySem.W.nsIn K mainGlobals "list" = some none) (n8 : PySem.W.nsIn K mainGlobals "max" = some none) (n9 : PySem.W.nsIn K mainGlobals "min" = some none) (n10 : PySem.W.nsIn K mainGlobals "range" = some none)
    (n11 : PySem.W.nsIn K mainGlobals "repr" = some none) (n12 : PySem.W.nsIn K mainGlobals "reversed" = some none) (n13 : PySem.W.nsIn K mainGlobals "sorted" = some none) (n14 : PySem.W.nsIn K mainGlobals "tuple" = some none)
    (aH : PySem.W.nsIn K mainGlobals "House" = some (some (.ref cH))) (aE : PySem.W.nsIn K mainGlobals "HuefallError" = some (some (.ref cHE))) : Txt K mg cH cHE :=
  ⟨PySem.W.mg_none_of X G n1, PySem.W.mg_none_of X G n2, PySem.W.mg_none_of X G n3, PySem.W.mg_none_of X G n4, PySem.W.mg_none_of X G n5, PySem.W.mg_none_of X G n6, PySem.W.mg_none_of X G n7, PySem.W.mg_none_of X G n8, PySem.W.mg_none_of X G n9, PySem.W.mg_none_of X G n10, PySem.W.mg_none_of X G n11, PySem.W.mg_none_of X G n12, PySem.W.mg_none_of X G n13, PySem.W.mg_none_of X G n14, PySem.W.mg_of X G aH, PySem.W.mg_of X G aE⟩
/-- House -/
theorem house_mk {cH f T0 T1 : Addr} {oc kV doc pm cdv ct c1 mc : Value} {od an d1 d2 : Option Addr} {osl s1 s2 : Array (Option Value)} {k1 k2 : Nat} {t1 t2 : Tok} (X : K.In h) (G : h.Ns mainGlobals mg)
    (aH : PySem.W.nsIn K mainGlobals "House" = some (some (.ref cH))) (iH : PySem.W.findIn K (.ref cH) "__init__" = some (some (.ref f)))
    (lf : K.lookup f = some ⟨oc, od, .func (PySem.W.fnOf "__init__" "House.__init__" (defArgs hDef) (defBody hDef) (defScope hDef) (.ref T1) kV doc pm an cdv ct), osl⟩) (cf : PySem.W.codeIn K cdv "House.__init__" = true) (kf : PySem.W.keepIn K (.ref f) = true)
    (lT : K.lookup T1 = some ⟨c1, d1, .seq #[.ref T0] k1, s1⟩) (l0 : K.lookup T0 = some ⟨.type "tuple", d2, .seq #[] k2, s2⟩)
    (mk : PySem.W.makesIn K cH = true) (fn : PySem.W.isFn K (.ref f) = true) (kp : PySem.W.keepIn K (.ref cH) = true)
    (pg : PySem.W.plainGet K cH Str.empty = true) (hd : PySem.W.hasDictIn K cH = true) (po : PySem.W.plainOver K cH = true) (sa : PySem.W.findIn K (.ref cH) "__setattr__" = some (some (.builtin "object.__setattr__")))
    (a1 : PySem.W.findIn K (.ref cH) "_below_masks" = some none) (a2 : PySem.W.findIn K (.ref cH) "_above_masks" = some none) (a3 : PySem.W.findIn K (.ref cH) "_below" = some none) (a4 : PySem.W.findIn K (.ref cH) "_above" = some none) (a5 : PySem.W.findIn K (.ref cH) "_order" = some none)
    (a6 : PySem.W.findIn K (.ref cH) "count" = some none) (a7 : PySem.W.findIn K (.ref cH) "hues" = some none) (a8 : PySem.W.findIn K (.ref cH) "wires" = some none) (a9 : PySem.W.findIn K (.ref cH) "_direct" = some none)
    (rd : PySem.W.readsIn K cH mc = true) (ga : PySem.W.specialIn K (.ref cH) "__getattribute__" = some (some (.builtin "type.__getattribute__")))
    (v1 : PySem.W.findCls K (.ref cH) mc "MOST_LAMPS" = some (.val (.int 16 t1))) (v2 : PySem.W.findCls K (.ref cH) mc "MOST_HUES" = some (.val (.int 10 t2))) : DefH K mg cH where
  ex := ⟨f, _, T0, ⟨⟨oc, od, .ref T1, kV, doc, pm, an, cdv, ct, osl, rfl, lf, cf, .inr ⟨List.cons_ne_nil _ _, T1, _, [.ref T0], k1, rfl, lT, rfl, .cons rfl .nil⟩, .inl rfl⟩, kf⟩, fun H => .inr ⟨_, #[], k2, l0, rfl, rfl, by decide, .nil⟩, ⟨mk, iH, fn, kp⟩⟩
  mg_ := PySem.W.mg_of X G aH
  cls := ⟨⟨pg, hd, po, sa⟩, a1, a2, a3, a4, a5, a6, a7, a8, a9⟩
  most := ⟨⟨mc, _, ⟨rd, ga⟩, v1, t1, rfl⟩, ⟨mc, _, ⟨rd, ga⟩, v2, t2, rfl⟩⟩
theorem kit_of {C D : Addr} (h2 : PySem.W.isClsIn K D = true) (h3 : PySem.W.typeIn K (.ref D) = some (.type "type")) (h4 : PySem.W.subIn K (.ref C) (.ref D) = some true) : PySem.W.kitOne K (.ref C) (.ref D) = some true := by
  unfold PySem.W.kitOne
  by_cases e : (Value.ref C == Value.ref D) = true
  · rw [if_pos e]
  · rw [if_neg e]
    have e2 : ((PySem.W.clsIn K D).isSome && PySem.W.typeIn K (.ref D) == some (.type "type")) = true := by
      have g : (PySem.W.clsIn K D).isSome = true := h2
      rw [g, h3] <;> rfl
    show (if ((PySem.W.clsIn K D).isSome && PySem.W.typeIn K (.ref D) == some (.type "type")) = true then PySem.W.subIn K (.ref C) (.ref D) else none) = some true
    rw [if_pos e2]
    exact h4
/-- InvalidLamp -/
theorem err_mk {C fI cHE cda cc : Addr} {nm q file : Str} {N : Addr} {bs sub : List Value} {sn : List Str} {ab : Bool} {col : Option Bool} {dd : Option Addr} {m0 m1 m2 m3 m5 : Option Value} {oc kV doc pm ct ccl cl : Value} {od an cdd cld : Option Addr} {osl ccs csl : Array (Option Value)} {us : Array Value} {tf : Tok}
    (X : K.In h) (G : h.Ns mainGlobals mg) (aC : PySem.W.nsIn K mainGlobals "InvalidLamp" = some (some (.ref C)))
    (lC : K.lookup C = some (excClassObj nm q C N bs (.ref cHE :: [.type "ValueError", .type "Exception", .type "BaseException", .type "object"]) true sn sub ab col dd m0 m1 m2 m3 m5 "ValueError.__new__"))
    (sa : PySem.W.findIn K (.ref C) "__setattr__" = some (some (.builtin "object.__setattr__"))) (ga : PySem.W.findIn K (.ref C) "__getattribute__" = some (some (.builtin "BaseException.__getattribute__"))) (gg : PySem.W.findIn K (.ref C) "__getattr__" = some none)
    (nl : PySem.W.findIn K (.ref C) "lamp" = some none) (iC : PySem.W.findIn K (.ref C) "__init__" = some (some (.ref fI))) (tI : PySem.W.typeIn K (.ref fI) = some (.type "function"))
    (lf : K.lookup fI = some ⟨oc, od, .func (PySem.W.ksFn "__init__" "InvalidLamp.__init__" (defArgs ilDef) ilBody ilScope .none kV doc pm an (.ref cda) ct cc), osl⟩) (cf : PySem.W.codeIn K (.ref cda) "InvalidLamp.__init__" = true)
    (ld : K.lookup cda = some ⟨ccl, cdd, .fields us, ccs⟩) (u2 : us[2]? = some (.str file tf)) (pf : ((P.main.file : Str) == file) = true) (lc : K.lookup cc = some ⟨cl, cld, .cell (some (.ref C)), csl⟩)
    (ns : PySem.W.nsIn K mainGlobals "super" = some none) (tp : (P.main.scope.names.lookup ("super" : Str)).isSome = false) (me : PySem.W.mroIn K C (.ref C) = some true) (al : PySem.W.ks_superIn K C C "__init__" = some (some (.builtin "ValueError.__init__")))
    (sV : PySem.W.subIn K (.ref C) (.type "ValueError") = some true) (th : PySem.W.nsIn K PySem.cStatics "thirdparty.any" = some none)
    (kC : PySem.W.keepIn K (.ref C) = true) (eC : PySem.W.subIn K (.ref C) (.type "BaseException") = some true) (tC : PySem.W.typeIn K (.ref C) = some (.type "type")) (hC : PySem.W.hasDictIn K C = true) (qC : PySem.W.isClsIn K C = true) (sC : PySem.W.subIn K (.ref C) (.ref C) = some true)
    (qE : PySem.W.isClsIn K cHE = true) (tE : PySem.W.typeIn K (.ref cHE) = some (.type "type")) (sE : PySem.W.subIn K (.ref C) (.ref cHE) = some true)
    (ha : PySem.W.findIn K (.ref C) "__class__" = some (some (.builtin "object.__class__"))) (hn : PySem.W.specialIn K (.builtin "object.__class__") "__get__" = some (some (.builtin "getset_descriptor.__get__"))) (ht : PySem.W.takesIn K (.builtin "object.__class__") = some true) (hm : PySem.W.mroIn K C (.type "object") = some true) :
    IlX P K mg ∧ FxX P K mg cHE :=
  ⟨⟨C, fI, { oex := ⟨⟨nm, q, N, bs, _, sn, sub, ab, col, dd, m0, m1, m2, m3, m5, lC, by show PySem.HandSPX.refsVE [.type "ValueError", .type "Exception", .type "BaseException", .type "object"] = true; decide +kernel⟩, sa, eC, tC, kC⟩
             fn := ⟨oc, od, kV, doc, pm, an, cda, ct, cc, osl, ccl, cdd, us, ccs, file, tf, cl, cld, csl, lf, cf, ld, u2, pf, lc⟩
             msuper := PySem.W.mg_none_of X G ns, top := tp, self := me, along := al, subV := sV, third := th, noL := nl, mgC := PySem.W.mg_of X G aC, iC := iC, tI := tI }, aC⟩,
   ⟨C, PySem.W.mg_of X G aC, { exm := PySem.W.exm_ref eC hC tC sC, kit := kit_of qE tE sE, xf := ⟨ga, gg, eC, hC⟩, noL := nl, cl := qC, ha := ha, hn := hn, ht := ht, hm := hm, isil := aC }⟩⟩
end
theorem fin {P : Program} {w : World} {K : PySem.W.Frag} {h : Heap} {mg : Str → Option Value} {fa cH cHE : Addr} (X : K.In h) (G : h.Ns mainGlobals mg) (hfa : mg "law" = some (.ref fa)) (T : Txt K mg cH cHE) (E : IlX P K mg ∧ FxX P K mg cHE) (DH : DefH K mg cH) (W : Defs K) :
    ∃ sp : Sp, (∀ base : Heap, K.In base → base.Ns mainGlobals mg → ∃ fd : FuncData, Binds K fd ["_law_script"] [] ∧ FnG P w K mg base CX0 10 fa fd ["_law_script"] sp) ∧
      ∀ (H : Hp) (a : Addr) (ns : List Int), ns.length ≤ 63 → SqL K H a (ns.map V.int) → sp [.ref a] H (fun v _ => v = .bl true) fun _ _ _ => False := by
  refine ⟨sp_law K, fun base _ _ => ?_, fun H a ns hl hs => ⟨a, ns, rfl, hs, hl, fun _ => rfl⟩⟩
  obtain ⟨f, fd, F, hm, _, hb⟩ := (join (P := P) (w := w) (base := base) X G T E.1 E.2 DH W).ex
  have e := hfa.symm.trans hm
  cases e
  exact ⟨fd, hb, F⟩
end Hue
end
section
set_option maxHeartbeats 0
open PySem PySem.W PyProof.Rows
open_top headT for PySem.Challenge.rw_huefall_k14_whole_swaps
end
open PySem PySem.W PyProof.Rows in
set_option maxHeartbeats 0 in
theorem PySem.Challenge.cw_huefall_k14_whole_swaps_holds : PySem.Challenge.rw_huefall_k14_whole_swaps.Holds := by
  refine headT ?_
  k_fill
  refine Hue.walk_G (l := PySem.Challenge.rw_huefall_k14_whole_swaps) (n := 63) (k := 10) (x := "_law_script") rfl (by decide) rfl ⟨rfl, by decide, by decide⟩ (fun w h Y => PySem.W.kIn_of Y) ?F
  case F =>
    intro w mg fa h KX G hmg
    refine' Hue.fin KX G hmg (Hue.txt_mk KX G ?n1 ?n2 ?n3 ?n4 ?n5 ?n6 ?n7 ?n8 ?n9 ?n10 ?n11 ?n12 ?n13 ?n14 ?aH ?aE)
      (Hue.err_mk KX G ?eC ?elC ?esa ?ega ?egg ?enl ?eiC ?etI ?elf ?ecf ?eld ?eu2 ?epf ?elc ?ens ?etp ?eme ?eal ?esV ?eth ?ekC ?eeC ?etC ?ehC ?eqC ?esC ?eqE ?etE ?esE ?eha ?ehn ?eht ?ehm)
      (Hue.house_mk (mc := .type "type") KX G ?haH ?hiH ?hlf ?hcf ?hkf ?hlT ?hl0 ?hmk ?hfn ?hkp ?hpg ?hhd ?hpo ?hsa ?a1 ?a2 ?a3 ?a4 ?a5 ?a6 ?a7 ?a8 ?a9 ?hrd ?hga ?hv1 ?hv2) ?W
    (case aH => k_is); (case aE => k_is)
    (case n1 => k_is); (case n2 => k_is); (case n3 => k_is); (case n4 => k_is); (case n5 => k_is); (case n6 => k_is); (case n7 => k_is); (case n8 => k_is); (case n9 => k_is); (case n10 => k_is); (case n11 => k_is); (case n12 => k_is); (case n13 => k_is); (case n14 => k_is)
    (case eC => k_is); (case elC => k_is); (case esa => k_is); (case ega => k_is); (case egg => k_is); (case enl => k_is); (case eiC => k_is); (case etI => k_is); (case elf => k_is); (case ecf => k_is); (case eld => k_is); (case eu2 => exact rfl); (case epf => decide +kernel); (case elc => k_is)
    (case ens => k_is); (case etp => decide +kernel); (case eme => k_is); (case eal => kernel_rfl); (case esV => k_is); (case eth => k_is); (case ekC => k_is); (case eeC => k_is); (case etC => k_is); (case ehC => k_is); (case eqC => k_is); (case esC => k_is); (case eqE => k_is); (case etE => k_is); (case esE => k_is)
    (case eha => k_is); (case ehn => k_is); (case eht => k_is); (case ehm => k_is)
    (case haH => k_is); (case hiH => k_is); (case hlf => k_is); (case hcf => k_is); (case hkf => k_is); (case hlT => k_is); (case hl0 => k_is); (case hmk => k_is); (case hfn => k_is); (case hkp => k_is); (case hpg => k_is); (case hhd => k_is); (case hpo => k_is); (case hsa => k_is)
    (case a1 => k_is); (case a2 => k_is); (case a3 => k_is); (case a4 => k_is); (case a5 => k_is); (case a6 => k_is); (case a7 => k_is); (case a8 => k_is); (case a9 => k_is)
    (case hrd => k_is); (case hga => k_is); (case hv1 => k_is); (case hv2 => k_is)
    case W =>
      constructor
      all_goals (refine' Hue.defW ?a ?l ?c ?k; (case a => k_is); (case l => k_is); (case c => k_is); (case k => k_is))
