import PyProof.Rows.All
import Wide.All
import OpenK.AllK
import Wide.FinOn
import HandS.ForMost
import HandS.Codes
import HandS.Flow
import HandS.Wide
import HandS.WideBits
import HandS.Gcd
import HandS.IsInst
import HandS.Deep
import HandS.Zip
import HandS.SortInts
import HandS.Conv
import HandS.Walk
import KE.KEqNest
import KE.GoesMore
import KE.GoesEnum
import HandS.Style
import PyProof.Rows.ReprR
import PySem.Challenge.RW_bandsplits_k65_whole_channels_of_two_row
import PyProof.ReprLen
import HandS.NoneIn
import HandS.Ends
set_option Elab.async false
set_option linter.all false
set_option maxRecDepth 100000
set_option exponentiation.threshold 20000
namespace K65
/-! ### Laurent polynomials over the ratios, as the functionals h ↦ Σ a_i * h i -/
abbrev Tm := List (Int × Rat)
def evT : Tm → (Int → Rat) → Rat
  | [], _ => 0
  | x :: t, h => x.2 * h x.1 + evT t h
theorem evT_app : ∀ (s t : Tm) (h : Int → Rat), evT (s ++ t) h = evT s h + evT t h
  | [], t, h => by simp only [List.nil_append, evT]; grind
  | x :: s, t, h => by simp only [List.cons_append, evT, evT_app s t h]; grind
theorem evT_add : ∀ (t : Tm) (h g : Int → Rat), evT t (fun k => h k + g k) = evT t h + evT t g
  | [], h, g => by simp only [evT]; grind
  | x :: t, h, g => by simp only [evT, evT_add t h g]; grind
theorem evT_smul : ∀ (t : Tm) (c : Rat) (h : Int → Rat), evT t (fun k => c * h k) = c * evT t h
  | [], c, h => by simp only [evT]; grind
  | x :: t, c, h => by simp only [evT, evT_smul t c h]; grind
theorem evT_zero : ∀ (t : Tm), evT t (fun _ => 0) = 0
  | [] => rfl
  | x :: t => by simp only [evT, evT_zero t]; grind
theorem evT_swap : ∀ (s t : Tm) (F : Int → Int → Rat), evT s (fun i => evT t (fun j => F i j)) = evT t (fun j => evT s (fun i => F i j))
  | [], t, F => by
    simp only [evT]
    exact (evT_zero t).symm
  | x :: s, t, F => by
    simp only [evT]
    rw [evT_swap s t F, evT_add t (fun j => x.2 * F x.1 j) (fun j => evT s (fun i => F i j)), evT_smul t x.2 (fun j => F x.1 j)]
/-- the terms scaled and moved -/
def mulT : Tm → Tm → Tm
  | [], _ => []
  | x :: s, t => t.map (fun y => (x.1 + y.1, x.2 * y.2)) ++ mulT s t
theorem evT_scale : ∀ (t : Tm) (x : Int × Rat) (h : Int → Rat), evT (t.map (fun y => (x.1 + y.1, x.2 * y.2))) h = x.2 * evT t (fun j => h (x.1 + j))
  | [], x, h => by simp only [List.map_nil, evT]; grind
  | y :: t, x, h => by simp only [List.map_cons, evT, evT_scale t x h]; grind
theorem evT_mul : ∀ (s t : Tm) (h : Int → Rat), evT (mulT s t) h = evT s (fun i => evT t (fun j => h (i + j)))
  | [], t, h => rfl
  | x :: s, t, h => by simp only [mulT, evT_app, evT, evT_mul s t h, evT_scale]

structure L where
  ev : (Int → Rat) → Rat
  fin : ∃ t : Tm, ∀ h, ev h = evT t h
theorem L.ext {p q : L} (h : ∀ f, p.ev f = q.ev f) : p = q := by
  obtain ⟨a, ha⟩ := p
  obtain ⟨b, hb⟩ := q
  have e : a = b := funext h
  subst e
  rfl
def ofT (t : Tm) : L := ⟨evT t, t, fun _ => rfl⟩
theorem L.tm (p : L) : ∃ t : Tm, p = ofT t := by
  obtain ⟨t, ht⟩ := p.fin
  exact ⟨t, L.ext ht⟩
def L.zero : L := ofT []
def mono (k : Int) (a : Rat) : L := ofT [(k, a)]
def L.add (p q : L) : L := ⟨fun h => p.ev h + q.ev h, by
  obtain ⟨s, hs⟩ := p.fin
  obtain ⟨t, ht⟩ := q.fin
  exact ⟨s ++ t, fun h => by rw [evT_app, hs, ht]⟩⟩
theorem evT_sc (c : Rat) : ∀ (t : Tm) (h : Int → Rat), evT (t.map fun x => (x.1, c * x.2)) h = c * evT t h
  | [], h => by simp only [List.map_nil, evT]; grind
  | x :: t, h => by simp only [List.map_cons, evT, evT_sc c t h]; grind
def L.scale (c : Rat) (p : L) : L := ⟨fun h => c * p.ev h, by
  obtain ⟨s, hs⟩ := p.fin
  exact ⟨s.map fun x => (x.1, c * x.2), fun h => by rw [evT_sc, hs]⟩⟩
def L.neg (p : L) : L := L.scale (-1) p
def L.mul (p q : L) : L := ⟨fun h => p.ev fun i => q.ev fun j => h (i + j), by
  obtain ⟨s, hs⟩ := p.fin
  obtain ⟨t, ht⟩ := q.fin
  refine ⟨mulT s t, fun h => ?_⟩
  rw [evT_mul, hs]
  congr 1
  funext i
  rw [ht]⟩
instance : Add L := ⟨L.add⟩
instance : Mul L := ⟨L.mul⟩
instance : Neg L := ⟨L.neg⟩
instance : Sub L := ⟨fun p q => L.add p (L.neg q)⟩
def L.nat : Nat → L
  | 0 => L.zero
  | n + 1 => L.add (L.nat n) (mono 0 1)
instance instNatL : NatCast L := ⟨L.nat⟩
instance instOfNatL (n : Nat) : OfNat L n := ⟨L.nat n⟩
def L.int : Int → L
  | .ofNat n => L.nat n
  | .negSucc n => L.neg (L.nat (n + 1))
instance instIntL : IntCast L := ⟨L.int⟩
theorem ev_ofT (t : Tm) (h : Int → Rat) : (ofT t).ev h = evT t h := rfl
theorem ev_add (p q : L) (h : Int → Rat) : (p + q).ev h = p.ev h + q.ev h := rfl
theorem ev_mul (p q : L) (h : Int → Rat) : (p * q).ev h = p.ev fun i => q.ev fun j => h (i + j) := rfl
theorem ev_neg (p : L) (h : Int → Rat) : (-p).ev h = - p.ev h := by
  show (-1 : Rat) * p.ev h = _
  grind
theorem ev_sub (p q : L) (h : Int → Rat) : (p - q).ev h = p.ev h - q.ev h := by
  show p.ev h + (-1 : Rat) * q.ev h = _
  grind
theorem ev_scale (c : Rat) (p : L) (h : Int → Rat) : (L.scale c p).ev h = c * p.ev h := rfl
theorem ev_zero (h : Int → Rat) : (0 : L).ev h = 0 := rfl
theorem ev_mono (k : Int) (a : Rat) (h : Int → Rat) : (mono k a).ev h = a * h k := by
  show a * h k + 0 = _
  grind
theorem ev_one (h : Int → Rat) : (1 : L).ev h = h 0 := by
  show (L.zero.ev h) + (mono 0 1).ev h = _
  rw [ev_mono]
  show (0 : Rat) + _ = _
  grind
theorem one_eq : (1 : L) = mono 0 1 := L.ext fun h => by rw [ev_one, ev_mono]; grind
theorem evL_add (p : L) (h g : Int → Rat) : p.ev (fun k => h k + g k) = p.ev h + p.ev g := by
  obtain ⟨t, rfl⟩ := p.tm
  exact evT_add t h g
theorem evL_smul (p : L) (c : Rat) (h : Int → Rat) : p.ev (fun k => c * h k) = c * p.ev h := by
  obtain ⟨t, rfl⟩ := p.tm
  exact evT_smul t c h
theorem evL_zero (p : L) : p.ev (fun _ => 0) = 0 := by
  obtain ⟨t, rfl⟩ := p.tm
  exact evT_zero t
theorem evL_swap (p q : L) (F : Int → Int → Rat) : p.ev (fun i => q.ev (fun j => F i j)) = q.ev (fun j => p.ev (fun i => F i j)) := by
  obtain ⟨s, rfl⟩ := p.tm
  obtain ⟨t, rfl⟩ := q.tm
  exact evT_swap s t F
theorem L.add_comm (p q : L) : p + q = q + p := L.ext fun h => by rw [ev_add, ev_add]; grind
theorem L.add_assoc (p q r : L) : p + q + r = p + (q + r) := L.ext fun h => by simp only [ev_add]; grind
theorem L.add_zero (p : L) : p + 0 = p := L.ext fun h => by rw [ev_add, ev_zero]; grind
theorem L.mul_comm (p q : L) : p * q = q * p := L.ext fun h => by
  rw [ev_mul, ev_mul, evL_swap]
  congr 1
  funext j
  congr 1
  funext i
  rw [Int.add_comm]
theorem L.mul_assoc (p q r : L) : p * q * r = p * (q * r) := L.ext fun h => by
  simp only [ev_mul]
  congr 1
  funext i
  congr 1
  funext j
  congr 1
  funext k
  rw [Int.add_assoc]
theorem L.left_distrib (p q r : L) : p * (q + r) = p * q + p * r := L.ext fun h => by
  simp only [ev_mul, ev_add, evL_add]
theorem L.mul_one (p : L) : p * 1 = p := L.ext fun h => by
  rw [ev_mul]
  congr 1
  funext i
  rw [ev_one, Int.add_zero]
theorem L.mul_zero (p : L) : p * 0 = 0 := L.ext fun h => by
  rw [ev_mul, ev_zero]
  exact evL_zero p
def L.pow (p : L) : Nat → L
  | 0 => 1
  | n + 1 => L.pow p n * p
instance instPowL : HPow L Nat L := ⟨L.pow⟩
instance instNsmulL : SMul Nat L := ⟨fun n p => (n : L) * p⟩
instance instZsmulL : SMul Int L := ⟨fun n p => (n : L) * p⟩
theorem L.neg_add_cancel (p : L) : -p + p = 0 := L.ext fun h => by rw [ev_add, ev_neg, ev_zero]; grind
theorem int_neg (i : Int) : ((-i : Int) : L) = - (i : L) := by
  match i with
  | .ofNat 0 =>
    show L.nat 0 = L.neg (L.nat 0)
    exact L.ext fun h => by
      show (0 : L).ev h = (-(0 : L)).ev h
      rw [ev_neg, ev_zero]
      grind
  | .ofNat (n + 1) => rfl
  | .negSucc n =>
    show L.nat (n + 1) = L.neg (L.neg (L.nat (n + 1)))
    exact L.ext fun h => by
      show (L.nat (n + 1)).ev h = (-(-(L.nat (n + 1)))).ev h
      rw [ev_neg, ev_neg]
      grind
instance : Lean.Grind.CommRing L where
  add_zero := L.add_zero
  add_comm := L.add_comm
  add_assoc := L.add_assoc
  mul_assoc := L.mul_assoc
  mul_one := L.mul_one
  one_mul := fun p => by rw [L.mul_comm, L.mul_one]
  left_distrib := L.left_distrib
  right_distrib := fun p q r => by rw [L.mul_comm, L.left_distrib, L.mul_comm r, L.mul_comm r]
  zero_mul := fun p => by rw [L.mul_comm, L.mul_zero]
  mul_zero := L.mul_zero
  pow_zero := fun _ => rfl
  pow_succ := fun _ _ => rfl
  ofNat_succ := fun n => by
    show L.add (L.nat n) (mono 0 1) = L.add (L.nat n) 1
    rw [one_eq]
  ofNat_eq_natCast := fun _ => rfl
  nsmul_eq_natCast_mul := fun _ _ => rfl
  neg_add_cancel := L.neg_add_cancel
  sub_eq_add_neg := fun _ _ => rfl
  neg_zsmul := fun i a => by
    show ((-i : Int) : L) * a = -((i : L) * a)
    rw [int_neg]
    exact L.ext fun h => by
      rw [ev_mul, ev_neg, ev_neg, ev_mul]
  zsmul_natCast_eq_nsmul := fun _ _ => rfl
  intCast_ofNat := fun _ => rfl
  intCast_neg := int_neg
  mul_comm := L.mul_comm
example (a b c : L) : a * (b + c) - c * a = b * a := by grind

/-! ### numbers at places -/
def dl (k : Int) : Int → Rat := fun i => if i = k then 1 else 0
/-- the number at a place -/
def L.co (p : L) (k : Int) : Rat := p.ev (dl k)
theorem dl_same (k : Int) : dl k k = 1 := if_pos rfl
theorem dl_ne {k i : Int} (h : i ≠ k) : dl k i = 0 := if_neg h
theorem evT_split (t : Tm) (k : Int) (h : Int → Rat) : evT t h = evT t (dl k) * h k + evT (t.filter fun x => decide (x.1 ≠ k)) h := by
  induction t with
  | nil => simp only [evT, List.filter_nil]; grind
  | cons x t ih =>
    by_cases e : x.1 = k
    · rw [List.filter_cons_of_neg (by simp [e])]
      have d : dl k x.1 = 1 := by rw [e, dl_same]
      simp only [evT]
      rw [ih, d, e]
      grind
    · rw [List.filter_cons_of_pos (by simp [e])]
      simp only [evT]
      rw [ih, dl_ne e]
      grind
theorem evT_vanish : ∀ (n : Nat) (t : Tm), t.length ≤ n → (∀ k, evT t (dl k) = 0) → ∀ h, evT t h = 0 := by
  intro n
  induction n with
  | zero =>
    intro t hl hz h
    have : t = [] := List.eq_nil_of_length_eq_zero (by omega)
    subst this
    rfl
  | succ n ih =>
    intro t hl hz h
    cases t with
    | nil => rfl
    | cons x t =>
      rw [evT_split (x :: t) x.1 h, hz x.1]
      have e : ((x :: t).filter fun y => decide (y.1 ≠ x.1)) = t.filter fun y => decide (y.1 ≠ x.1) := List.filter_cons_of_neg (by simp)
      rw [e]
      have l1 := List.length_filter_le (fun y : Int × Rat => decide (y.1 ≠ x.1)) t
      have l2 : t.length + 1 ≤ n + 1 := hl
      rw [ih (t.filter fun y => decide (y.1 ≠ x.1)) (by omega) (fun k => ?_) h]
      · grind
      · have s := evT_split (x :: t) x.1 (dl k)
        rw [hz k, hz x.1, e] at s
        grind
theorem L.eq_of_co {p q : L} (h : ∀ k, p.co k = q.co k) : p = q := by
  have z : ∀ f, (p - q).ev f = 0 := by
    obtain ⟨t, ht⟩ := (p - q).tm
    intro f
    rw [ht]
    refine evT_vanish t.length t (Nat.le_refl _) (fun k => ?_) f
    have e : (p - q).co k = 0 := by
      show (p - q).ev (dl k) = 0
      rw [ev_sub]
      have := h k
      unfold L.co at this
      grind
    rw [ht] at e
    exact e
  exact L.ext fun f => by
    have := z f
    rw [ev_sub] at this
    grind
theorem co_add (p q : L) (k : Int) : (p + q).co k = p.co k + q.co k := rfl
theorem co_sub (p q : L) (k : Int) : (p - q).co k = p.co k - q.co k := ev_sub p q _
theorem co_neg (p : L) (k : Int) : (-p).co k = - p.co k := ev_neg p _
theorem co_zero (k : Int) : (0 : L).co k = 0 := rfl
theorem co_scale (c : Rat) (p : L) (k : Int) : (L.scale c p).co k = c * p.co k := rfl
theorem co_mono (i : Int) (a : Rat) (k : Int) : (mono i a).co k = if i = k then a else 0 := by
  unfold L.co
  rw [ev_mono]
  unfold dl
  split <;> grind
theorem co_one (k : Int) : (1 : L).co k = if k = 0 then 1 else 0 := by
  rw [one_eq, co_mono]
  split <;> split <;> first | rfl | omega
theorem co_ofT_nil (k : Int) : (ofT []).co k = 0 := rfl
theorem co_ofT_cons (x : Int × Rat) (t : Tm) (k : Int) : (ofT (x :: t)).co k = (if x.1 = k then x.2 else 0) + (ofT t).co k := by
  show x.2 * dl k x.1 + evT t (dl k) = _ + evT t (dl k)
  by_cases e : x.1 = k
  · rw [if_pos e, e, dl_same]; grind
  · rw [if_neg e, dl_ne e]; grind
theorem ofT_cons (x : Int × Rat) (t : Tm) : ofT (x :: t) = mono x.1 x.2 + ofT t := L.ext fun h => by
  rw [ev_add, ev_mono]
  rfl
theorem ofT_app (s t : Tm) : ofT (s ++ t) = ofT s + ofT t := L.ext fun h => evT_app s t h
theorem ofT_nil : ofT [] = 0 := rfl
theorem mono_zero (k : Int) : mono k 0 = 0 := L.ext fun h => by rw [ev_mono, ev_zero]; grind
theorem mono_mul (i j : Int) (a b : Rat) : mono i a * mono j b = mono (i + j) (a * b) := L.ext fun h => by
  rw [ev_mul, ev_mono, ev_mono, ev_mono]
  grind
theorem mono_add (i : Int) (a b : Rat) : mono i a + mono i b = mono i (a + b) := L.ext fun h => by
  rw [ev_add, ev_mono, ev_mono, ev_mono]
  grind
theorem scale_eq (c : Rat) (p : L) : L.scale c p = mono 0 c * p := L.ext fun h => by
  rw [ev_mul, ev_mono, ev_scale]
  congr 2
  funext j
  rw [Int.zero_add]
theorem co_mono_mul (i : Int) (a : Rat) (p : L) (k : Int) : (mono i a * p).co k = a * p.co (k - i) := by
  unfold L.co
  rw [ev_mul, ev_mono]
  congr 2
  funext j
  unfold dl
  by_cases e : j = k - i
  · rw [if_pos e, if_pos (by omega)]
  · rw [if_neg e, if_neg (by omega)]
/-! ### where a polynomial has its numbers -/
/-- no number ahead of a, none from b on -/
def In (a b : Int) (p : L) : Prop := ∀ k, p.co k ≠ 0 → a ≤ k ∧ k < b
theorem In.mono {a b a' b' : Int} {p : L} (h : In a b p) (h1 : a' ≤ a) (h2 : b ≤ b') : In a' b' p := fun k hk => by
  have := h k hk
  omega
theorem ofT_in (t : Tm) : ∃ a b, In a b (ofT t) := by
  induction t with
  | nil => exact ⟨0, 0, fun k hk => absurd (co_ofT_nil k) hk⟩
  | cons x t ih =>
    obtain ⟨a, b, h⟩ := ih
    refine ⟨min a x.1, max b (x.1 + 1), fun k hk => ?_⟩
    rw [co_ofT_cons] at hk
    by_cases e : x.1 = k
    · omega
    · rw [if_neg e] at hk
      have := h k (by grind)
      omega
theorem L.fin_in (p : L) : ∃ a b, In a b p := by
  obtain ⟨t, rfl⟩ := p.tm
  exact ofT_in t
theorem ne_zero_co {p : L} (h : p ≠ 0) : ∃ k, p.co k ≠ 0 := by
  apply Classical.byContradiction
  intro q
  refine h (L.eq_of_co fun k => ?_)
  rw [co_zero]
  apply Classical.byContradiction
  intro z
  exact q ⟨k, z⟩
/-- the last place, the first place -/
def Top (p : L) (n : Int) : Prop := p.co n ≠ 0 ∧ ∀ k, p.co k ≠ 0 → k ≤ n
def Bot (p : L) (n : Int) : Prop := p.co n ≠ 0 ∧ ∀ k, p.co k ≠ 0 → n ≤ k
theorem exists_top {p : L} (h : p ≠ 0) : ∃ n, Top p n := by
  obtain ⟨k, hk⟩ := ne_zero_co h
  obtain ⟨a, b, hi⟩ := p.fin_in
  have go : ∀ (m : Nat) (k : Int), p.co k ≠ 0 → (b - k).toNat ≤ m → ∃ n, Top p n := by
    intro m
    induction m with
    | zero =>
      intro k hk hm
      have := hi k hk
      omega
    | succ m ih =>
      intro k hk hm
      by_cases e : ∃ j, p.co j ≠ 0 ∧ k < j
      · obtain ⟨j, hj, hkj⟩ := e
        have := hi j hj
        exact ih j hj (by omega)
      · exact ⟨k, hk, fun j hj => by
          apply Classical.byContradiction
          intro z
          exact e ⟨j, hj, by omega⟩⟩
  exact go (b - k).toNat k hk (Nat.le_refl _)
theorem exists_bot {p : L} (h : p ≠ 0) : ∃ n, Bot p n := by
  obtain ⟨k, hk⟩ := ne_zero_co h
  obtain ⟨a, b, hi⟩ := p.fin_in
  have go : ∀ (m : Nat) (k : Int), p.co k ≠ 0 → (k - a).toNat ≤ m → ∃ n, Bot p n := by
    intro m
    induction m with
    | zero =>
      intro k hk hm
      have := hi k hk
      exact ⟨k, hk, fun j hj => by
        have := hi j hj
        omega⟩
    | succ m ih =>
      intro k hk hm
      by_cases e : ∃ j, p.co j ≠ 0 ∧ j < k
      · obtain ⟨j, hj, hkj⟩ := e
        have := hi j hj
        exact ih j hj (by omega)
      · exact ⟨k, hk, fun j hj => by
          apply Classical.byContradiction
          intro z
          exact e ⟨j, hj, by omega⟩⟩
  exact go (k - a).toNat k hk (Nat.le_refl _)
theorem Top.uniq {p : L} {n m : Int} (h : Top p n) (h' : Top p m) : n = m := by
  have := h.2 m h'.1
  have := h'.2 n h.1
  omega
theorem Bot.uniq {p : L} {n m : Int} (h : Bot p n) (h' : Bot p m) : n = m := by
  have := h.2 m h'.1
  have := h'.2 n h.1
  omega
theorem Top.ne {p : L} {n : Int} (h : Top p n) : p ≠ 0 := fun e => h.1 (by rw [e, co_zero])
theorem Bot.ne {p : L} {n : Int} (h : Bot p n) : p ≠ 0 := fun e => h.1 (by rw [e, co_zero])
/-- the sum that is the number of a product at a place -/
theorem co_mul_ofT (p : L) : ∀ (t : Tm) (k : Int), (ofT t * p).co k = evT t (fun i => p.co (k - i))
  | [], k => by
    rw [ofT_nil]
    have : (0 : L) * p = 0 := by grind
    rw [this]
    rfl
  | x :: t, k => by
    rw [ofT_cons]
    have : (mono x.1 x.2 + ofT t) * p = mono x.1 x.2 * p + ofT t * p := by grind
    rw [this, co_add, co_mono_mul, co_mul_ofT p t k]
    rfl
theorem co_mul (q p : L) (k : Int) : (q * p).co k = q.ev (fun i => p.co (k - i)) := by
  obtain ⟨t, rfl⟩ := q.tm
  exact co_mul_ofT p t k
/-- a functional sees the numbers alone -/
theorem ev_congr (q : L) {f g : Int → Rat} (h : ∀ i, q.co i ≠ 0 → f i = g i) : q.ev f = q.ev g := by
  -- q.ev (f - g) by the part of q
  have main : ∀ (n : Nat) (t : Tm), t.length ≤ n → ∀ f : Int → Rat, (∀ i, evT t (dl i) ≠ 0 → f i = 0) → evT t f = 0 := by
    intro n
    induction n with
    | zero =>
      intro t hl f hz
      have : t = [] := List.eq_nil_of_length_eq_zero (by omega)
      subst this
      rfl
    | succ n ih =>
      intro t hl f hz
      cases t with
      | nil => rfl
      | cons x t =>
        have e : ((x :: t).filter fun y => decide (y.1 ≠ x.1)) = t.filter fun y => decide (y.1 ≠ x.1) := List.filter_cons_of_neg (by simp)
        have l1 := List.length_filter_le (fun y : Int × Rat => decide (y.1 ≠ x.1)) t
        have l2 : t.length + 1 ≤ n + 1 := hl
        have s0 := evT_split (x :: t) x.1 f
        have z1 : evT (x :: t) (dl x.1) * f x.1 = 0 := by
          by_cases z : evT (x :: t) (dl x.1) = 0
          · rw [z]; grind
          · rw [hz x.1 z]; grind
        rw [s0, z1, e, ih (t.filter fun y => decide (y.1 ≠ x.1)) (by omega) f (fun i hi => ?_)]
        · grind
        · by_cases ei : i = x.1
          · subst ei
            exfalso
            apply hi
            have : ∀ u : Tm, evT (u.filter fun y => decide (y.1 ≠ x.1)) (dl x.1) = 0 := by
              intro u
              induction u with
              | nil => rfl
              | cons y u ihu =>
                by_cases ey : y.1 = x.1
                · rw [List.filter_cons_of_neg (by simp [ey])]
                  exact ihu
                · rw [List.filter_cons_of_pos (by simp [ey])]
                  simp only [evT, ihu, dl, if_neg ey]
                  grind
            exact this t
          · have s := evT_split (x :: t) x.1 (dl i)
            rw [e] at s
            have d0 : dl i x.1 = 0 := if_neg (fun z => ei z.symm)
            rw [d0] at s
            refine hz i fun z => hi ?_
            rw [z] at s
            grind
  obtain ⟨t, rfl⟩ := q.tm
  have m := main t.length t (Nat.le_refl _) (fun k => f k + (-1) * g k) (fun i hi => by
    have := h i hi
    grind)
  rw [evT_add t f (fun k => (-1) * g k), evT_smul t (-1) g] at m
  show evT t f = evT t g
  grind
/-- evaluation over one place alone -/
theorem ev_one_place (q : L) {f : Int → Rat} (n : Int) (h : ∀ i, q.co i ≠ 0 → i ≠ n → f i = 0) : q.ev f = q.co n * f n := by
  have e : q.ev f = q.ev (fun i => f n * dl n i) := ev_congr q fun i hi => by
    unfold dl
    by_cases z : i = n
    · rw [if_pos z, z]; grind
    · rw [if_neg z, h i hi z]; grind
  rw [e, evL_smul]
  show f n * q.co n = _
  grind
theorem co_mul_top {p q : L} {n m : Int} (hp : Top p n) (hq : Top q m) : (p * q).co (n + m) = p.co n * q.co m := by
  rw [co_mul, ev_one_place p n fun i hi hne => ?_]
  · congr 2
    omega
  · apply Classical.byContradiction
    intro z
    have := hp.2 i hi
    have := hq.2 _ z
    omega
theorem co_mul_bot {p q : L} {n m : Int} (hp : Bot p n) (hq : Bot q m) : (p * q).co (n + m) = p.co n * q.co m := by
  rw [co_mul, ev_one_place p n fun i hi hne => ?_]
  · congr 2
    omega
  · apply Classical.byContradiction
    intro z
    have := hp.2 i hi
    have := hq.2 _ z
    omega
theorem co_mul_in {p q : L} {k : Int} (h : (p * q).co k ≠ 0) : ∃ i j, i + j = k ∧ p.co i ≠ 0 ∧ q.co j ≠ 0 := by
  apply Classical.byContradiction
  intro z
  apply h
  rw [co_mul]
  have : p.ev (fun i => q.co (k - i)) = p.ev (fun _ => 0) := ev_congr p fun i hi => by
    apply Classical.byContradiction
    intro y
    exact z ⟨i, k - i, by omega, hi, y⟩
  rw [this, evL_zero]
theorem rat_mul_ne {a b : Rat} (ha : a ≠ 0) (hb : b ≠ 0) : a * b ≠ 0 := by
  intro h
  grind
theorem Top.mul {p q : L} {n m : Int} (hp : Top p n) (hq : Top q m) : Top (p * q) (n + m) := by
  refine ⟨by rw [co_mul_top hp hq]; exact rat_mul_ne hp.1 hq.1, fun k hk => ?_⟩
  obtain ⟨i, j, e, hi, hj⟩ := co_mul_in hk
  have := hp.2 i hi
  have := hq.2 j hj
  omega
theorem Bot.mul {p q : L} {n m : Int} (hp : Bot p n) (hq : Bot q m) : Bot (p * q) (n + m) := by
  refine ⟨by rw [co_mul_bot hp hq]; exact rat_mul_ne hp.1 hq.1, fun k hk => ?_⟩
  obtain ⟨i, j, e, hi, hj⟩ := co_mul_in hk
  have := hp.2 i hi
  have := hq.2 j hj
  omega
theorem mul_ne {p q : L} (hp : p ≠ 0) (hq : q ≠ 0) : p * q ≠ 0 := by
  obtain ⟨n, h1⟩ := exists_top hp
  obtain ⟨m, h2⟩ := exists_top hq
  exact (h1.mul h2).ne
theorem mul_zero_iff {p q : L} (h : p * q = 0) : p = 0 ∨ q = 0 := by
  by_cases hp : p = 0
  · exact .inl hp
  · by_cases hq : q = 0
    · exact .inr hq
    · exact absurd h (mul_ne hp hq)
theorem mul_cancel {a b d : L} (hd : d ≠ 0) (h : a * d = b * d) : a = b := by
  have : (a - b) * d = 0 := by grind
  rcases mul_zero_iff this with z | z
  · grind
  · exact absurd z hd
theorem mono_ne {k : Int} {a : Rat} (h : a ≠ 0) : mono k a ≠ 0 := fun e => by
  have : (mono k a).co k = 0 := by rw [e, co_zero]
  rw [co_mono, if_pos rfl] at this
  exact h this
theorem top_mono {k : Int} {a : Rat} (h : a ≠ 0) : Top (mono k a) k := by
  refine ⟨by rw [co_mono, if_pos rfl]; exact h, fun j hj => ?_⟩
  rw [co_mono] at hj
  by_cases e : k = j
  · omega
  · rw [if_neg e] at hj
    exact absurd rfl hj
theorem bot_mono {k : Int} {a : Rat} (h : a ≠ 0) : Bot (mono k a) k := by
  refine ⟨by rw [co_mono, if_pos rfl]; exact h, fun j hj => ?_⟩
  rw [co_mono] at hj
  by_cases e : k = j
  · omega
  · rw [if_neg e] at hj
    exact absurd rfl hj
/-- one number alone -/
theorem mono_of {p : L} {n : Int} (ht : Top p n) (hb : Bot p n) : p = mono n (p.co n) := L.eq_of_co fun k => by
  rw [co_mono]
  by_cases e : n = k
  · rw [if_pos e, e]
  · rw [if_neg e]
    apply Classical.byContradiction
    intro z
    have := ht.2 k z
    have := hb.2 k z
    omega
theorem Bot.le_top {p : L} {n m : Int} (hb : Bot p n) (ht : Top p m) : n ≤ m := hb.2 m ht.1
/-- what divides one is one number alone -/
theorem unit_mono {p q : L} (h : p * q = 1) : ∃ k a, a ≠ 0 ∧ p = mono k a := by
  have h1 : (1 : L) ≠ 0 := by
    rw [one_eq]
    exact mono_ne (by decide)
  have hp : p ≠ 0 := fun e => h1 (by rw [← h, e]; grind)
  have hq : q ≠ 0 := fun e => h1 (by rw [← h, e]; grind)
  obtain ⟨n, tn⟩ := exists_top hp
  obtain ⟨m, bm⟩ := exists_bot hp
  obtain ⟨n', tn'⟩ := exists_top hq
  obtain ⟨m', bm'⟩ := exists_bot hq
  have t := tn.mul tn'
  have b := bm.mul bm'
  rw [h, one_eq] at t b
  have e1 := t.uniq (top_mono (k := 0) (a := 1) (by decide))
  have e2 := b.uniq (bot_mono (k := 0) (a := 1) (by decide))
  have l1 := bm.le_top tn
  have l2 := bm'.le_top tn'
  have e3 : m = n := by omega
  subst e3
  exact ⟨m, p.co m, tn.1, mono_of tn bm⟩
theorem mono_inv {k : Int} {a : Rat} (h : a ≠ 0) : mono k a * mono (-k) (a⁻¹) = 1 := by
  rw [mono_mul, one_eq]
  congr 1
  · omega
  · grind
end K65

namespace K65
/-! ### even part, odd part, spread out -/
def evenF (h : Int → Rat) : Int → Rat := fun k => if k % 2 = 0 then h (k / 2) else 0
def oddF (h : Int → Rat) : Int → Rat := fun k => if k % 2 = 1 then h (k / 2) else 0
def evenT (t : Tm) : Tm := (t.filter fun x => decide (x.1 % 2 = 0)).map fun x => (x.1 / 2, x.2)
def oddT (t : Tm) : Tm := (t.filter fun x => decide (x.1 % 2 = 1)).map fun x => (x.1 / 2, x.2)
theorem evT_even (h : Int → Rat) : ∀ t : Tm, evT (evenT t) h = evT t (evenF h)
  | [] => rfl
  | x :: t => by
    have ih := evT_even h t
    unfold evenT at ih ⊢
    by_cases e : x.1 % 2 = 0
    · rw [List.filter_cons_of_pos (by simp [e]), List.map_cons]
      simp only [evT]
      rw [ih]
      unfold evenF
      rw [if_pos e]
    · rw [List.filter_cons_of_neg (by simp [e]), ih]
      simp only [evT]
      have : evenF h x.1 = 0 := if_neg e
      rw [this]
      grind
theorem evT_odd (h : Int → Rat) : ∀ t : Tm, evT (oddT t) h = evT t (oddF h)
  | [] => rfl
  | x :: t => by
    have ih := evT_odd h t
    unfold oddT at ih ⊢
    by_cases e : x.1 % 2 = 1
    · rw [List.filter_cons_of_pos (by simp [e]), List.map_cons]
      simp only [evT]
      rw [ih]
      unfold oddF
      rw [if_pos e]
    · rw [List.filter_cons_of_neg (by simp [e]), ih]
      simp only [evT]
      have : oddF h x.1 = 0 := if_neg e
      rw [this]
      grind
theorem evT_map (f : Int → Int) (h : Int → Rat) : ∀ t : Tm, evT (t.map fun x => (f x.1, x.2)) h = evT t (fun k => h (f k))
  | [] => rfl
  | x :: t => by
    simp only [List.map_cons, evT]
    rw [evT_map f h t]
def even (p : L) : L := ⟨fun h => p.ev (evenF h), by
  obtain ⟨t, ht⟩ := p.fin
  exact ⟨evenT t, fun h => by rw [evT_even, ht]⟩⟩
def odd (p : L) : L := ⟨fun h => p.ev (oddF h), by
  obtain ⟨t, ht⟩ := p.fin
  exact ⟨oddT t, fun h => by rw [evT_odd, ht]⟩⟩
def spread (p : L) : L := ⟨fun h => p.ev (fun k => h (2 * k)), by
  obtain ⟨t, ht⟩ := p.fin
  exact ⟨t.map fun x => (2 * x.1, x.2), fun h => by rw [evT_map (fun k => 2 * k), ht]⟩⟩
/-- so much later -/
def later (n : Int) (p : L) : L := mono n 1 * p
theorem ev_later (n : Int) (p : L) (h : Int → Rat) : (later n p).ev h = p.ev (fun k => h (n + k)) := by
  unfold later
  rw [ev_mul, ev_mono]
  grind
theorem co_later (n : Int) (p : L) (k : Int) : (later n p).co k = p.co (k - n) := by
  unfold later
  rw [co_mono_mul]
  grind
theorem co_even (p : L) (k : Int) : (even p).co k = p.co (2 * k) := by
  show p.ev (evenF (dl k)) = p.ev (dl (2 * k))
  congr 1
  funext i
  unfold evenF dl
  by_cases e : i % 2 = 0
  · rw [if_pos e]
    by_cases e2 : i / 2 = k
    · rw [if_pos e2, if_pos (by omega)]
    · rw [if_neg e2, if_neg (by omega)]
  · rw [if_neg e, if_neg (by omega)]
theorem co_odd (p : L) (k : Int) : (odd p).co k = p.co (2 * k + 1) := by
  show p.ev (oddF (dl k)) = p.ev (dl (2 * k + 1))
  congr 1
  funext i
  unfold oddF dl
  by_cases e : i % 2 = 1
  · rw [if_pos e]
    by_cases e2 : i / 2 = k
    · rw [if_pos e2, if_pos (by omega)]
    · rw [if_neg e2, if_neg (by omega)]
  · rw [if_neg e, if_neg (by omega)]
theorem co_spread (p : L) (k : Int) : (spread p).co k = if k % 2 = 0 then p.co (k / 2) else 0 := by
  show p.ev (fun i => dl k (2 * i)) = _
  by_cases e : k % 2 = 0
  · rw [if_pos e]
    show _ = p.ev (dl (k / 2))
    congr 1
    funext i
    unfold dl
    by_cases e2 : i = k / 2
    · rw [if_pos e2, if_pos (by omega)]
    · rw [if_neg e2, if_neg (by omega)]
  · rw [if_neg e]
    have : (fun i : Int => dl k (2 * i)) = fun _ => 0 := by
      funext i
      unfold dl
      rw [if_neg (by omega)]
    rw [this, evL_zero]
theorem even_add (p q : L) : even (p + q) = even p + even q := L.ext fun _ => rfl
theorem odd_add (p q : L) : odd (p + q) = odd p + odd q := L.ext fun _ => rfl
theorem spread_add (p q : L) : spread (p + q) = spread p + spread q := L.ext fun _ => rfl
theorem even_zero : even 0 = 0 := L.ext fun _ => rfl
theorem odd_zero : odd 0 = 0 := L.ext fun _ => rfl
theorem spread_zero : spread 0 = 0 := L.ext fun _ => rfl
/-- the row with two parts -/
def weave (p q : L) : L := spread p + later 1 (spread q)
theorem weave_parts (p : L) : weave (even p) (odd p) = p := L.eq_of_co fun k => by
  unfold weave
  rw [co_add, co_spread, co_later, co_spread]
  by_cases e : k % 2 = 0
  · rw [if_pos e, if_neg (by omega), co_even]
    have : 2 * (k / 2) = k := by omega
    rw [this]
    grind
  · rw [if_neg e, if_pos (by omega), co_odd]
    have : 2 * ((k - 1) / 2) + 1 = k := by omega
    rw [this]
    grind
theorem even_weave (p q : L) : even (weave p q) = p := L.eq_of_co fun k => by
  rw [co_even]
  unfold weave
  rw [co_add, co_spread, co_later, co_spread, if_pos (by omega), if_neg (by omega)]
  have : 2 * k / 2 = k := by omega
  rw [this]
  grind
theorem odd_weave (p q : L) : odd (weave p q) = q := L.eq_of_co fun k => by
  rw [co_odd]
  unfold weave
  rw [co_add, co_spread, co_later, co_spread, if_neg (by omega), if_pos (by omega)]
  have : (2 * k + 1 - 1) / 2 = k := by omega
  rw [this]
  grind
theorem even_spread_mul (p q : L) : even (spread p * q) = p * even q := L.ext fun h => by
  show p.ev (fun i => q.ev (fun j => evenF h (2 * i + j))) = p.ev (fun i => q.ev (evenF fun j => h (i + j)))
  congr 1
  funext i
  congr 1
  funext j
  unfold evenF
  by_cases e : j % 2 = 0
  · rw [if_pos e, if_pos (by omega)]
    congr 1
    omega
  · rw [if_neg e, if_neg (by omega)]
theorem odd_spread_mul (p q : L) : odd (spread p * q) = p * odd q := L.ext fun h => by
  show p.ev (fun i => q.ev (fun j => oddF h (2 * i + j))) = p.ev (fun i => q.ev (oddF fun j => h (i + j)))
  congr 1
  funext i
  congr 1
  funext j
  unfold oddF
  by_cases e : j % 2 = 1
  · rw [if_pos e, if_pos (by omega)]
    congr 1
    omega
  · rw [if_neg e, if_neg (by omega)]
theorem even_later1 (q : L) : even (later 1 q) = later 1 (odd q) := L.eq_of_co fun k => by
  rw [co_even, co_later, co_later, co_odd]
  congr 1
  omega
theorem odd_later1 (q : L) : odd (later 1 q) = even q := L.eq_of_co fun k => by
  rw [co_odd, co_later, co_even]
  congr 1
  omega
theorem later_mul (n : Int) (p q : L) : later n p * q = later n (p * q) := by
  unfold later
  grind
theorem later_later (n m : Int) (p : L) : later n (later m p) = later (n + m) p := L.eq_of_co fun k => by
  rw [co_later, co_later, co_later]
  congr 1
  omega
theorem later_zero' (p : L) : later 0 p = p := L.eq_of_co fun k => by
  rw [co_later]
  congr 1
  omega
theorem later_add (n : Int) (p q : L) : later n (p + q) = later n p + later n q := by
  unfold later
  grind
theorem later_nought (n : Int) : later n 0 = 0 := by
  unfold later
  grind
/-- the channel of x by the filter f -/
def chan (f x : L) : L := even (f * x)
theorem chan_eq (f x : L) : chan f x = even f * even x + later 1 (odd f) * odd x := by
  unfold chan
  have e : f = spread (even f) + later 1 (spread (odd f)) := (weave_parts f).symm
  have e2 : f * x = spread (even f) * x + later 1 (spread (odd f) * x) := by
    rw [← later_mul]
    conv => lhs; rw [e]
    grind
  rw [e2, even_add, even_spread_mul, even_later1, odd_spread_mul, ← later_mul]
theorem odd_spread (p : L) : odd (spread p) = 0 := L.eq_of_co fun k => by
  rw [co_odd, co_spread, if_neg (by omega), co_zero]
theorem even_spread (p : L) : even (spread p) = p := L.eq_of_co fun k => by
  rw [co_even, co_spread, if_pos (by omega)]
  congr 1
  omega

/-! ### division -/
def Dvd (d p : L) : Prop := ∃ q, q * d = p
/-- p is narrower than q -/
def Narrow (p q : L) : Prop := ∀ n m, Top q n → Bot q m → ∃ a, In a (a + (n - m)) p
theorem narrow_zero (q : L) : Narrow 0 q := fun n m _ _ => ⟨0, fun k hk => absurd (co_zero k) hk⟩
/-- a multiple that is narrower is nought -/
theorem narrow_mul {c d : L} (h : Narrow (c * d) d) (hd : d ≠ 0) : c = 0 := by
  apply Classical.byContradiction
  intro hc
  obtain ⟨n, tn⟩ := exists_top hd
  obtain ⟨m, bm⟩ := exists_bot hd
  obtain ⟨n', tn'⟩ := exists_top hc
  obtain ⟨m', bm'⟩ := exists_bot hc
  obtain ⟨a, ha⟩ := h n m tn bm
  have h1 := ha _ (tn'.mul tn).1
  have h2 := ha _ (bm'.mul bm).1
  have h3 := bm'.le_top tn'
  omega
/-- a quotient and a narrow rest: the rest is nought exactly if it divides, and then the quotient is the one -/
theorem rest_zero {a b q r : L} (hb : b ≠ 0) (e : a = q * b + r) (hr : Narrow r b) : (r = 0 ↔ Dvd b a) := by
  constructor
  · intro h
    exact ⟨q, by rw [e, h]; grind⟩
  · rintro ⟨c, hc⟩
    have e2 : (c - q) * b = r := by grind
    have : c - q = 0 := narrow_mul (d := b) (by rw [e2]; exact hr) hb
    rw [← e2, this]
    grind
theorem Dvd.uniq {a b p q : L} (hb : b ≠ 0) (h1 : p * b = a) (h2 : q * b = a) : p = q := mul_cancel hb (by rw [h1, h2])
theorem dvd_zero (p : L) : Dvd p 0 := ⟨0, by grind⟩
theorem Dvd.refl (p : L) : Dvd p p := ⟨1, by grind⟩
theorem Dvd.trans {a b c : L} (h1 : Dvd a b) (h2 : Dvd b c) : Dvd a c := by
  obtain ⟨p, hp⟩ := h1
  obtain ⟨q, hq⟩ := h2
  exact ⟨q * p, by rw [← hq, ← hp]; grind⟩
theorem Dvd.comb {d a b : L} (h1 : Dvd d a) (h2 : Dvd d b) (s t : L) : Dvd d (s * a + t * b) := by
  obtain ⟨p, hp⟩ := h1
  obtain ⟨q, hq⟩ := h2
  exact ⟨s * p + t * q, by rw [← hp, ← hq]; grind⟩
/-! ### how wide -/
theorem narrow_wd {p q : L} (h : Narrow p q) {n m n' m' : Int} (tn : Top q n) (bm : Bot q m) (tn' : Top p n') (bm' : Bot p m') : n' - m' < n - m := by
  obtain ⟨a, ha⟩ := h n m tn bm
  have h1 := ha _ tn'.1
  have h2 := ha _ bm'.1
  omega
noncomputable def width (p : L) : Nat := by
  classical
  exact if h : p = 0 then 0 else ((exists_top h).choose - (exists_bot h).choose).toNat + 1
theorem width_zero : width 0 = 0 := by
  unfold width
  rw [dif_pos rfl]
theorem width_eq {p : L} {n m : Int} (tn : Top p n) (bm : Bot p m) : width p = (n - m).toNat + 1 := by
  unfold width
  have h : p ≠ 0 := tn.ne
  rw [dif_neg h]
  have e1 := (exists_top h).choose_spec.uniq tn
  have e2 := (exists_bot h).choose_spec.uniq bm
  rw [e1, e2]
theorem narrow_lt {p q : L} (h : Narrow p q) (hq : q ≠ 0) : width p < width q := by
  obtain ⟨n, tn⟩ := exists_top hq
  obtain ⟨m, bm⟩ := exists_bot hq
  rw [width_eq tn bm]
  by_cases e : p = 0
  · rw [e, width_zero]
    omega
  · obtain ⟨n', tn'⟩ := exists_top e
    obtain ⟨m', bm'⟩ := exists_bot e
    rw [width_eq tn' bm']
    have := narrow_wd h tn bm tn' bm'
    have := bm.le_top tn
    have := bm'.le_top tn'
    omega
/-! ### common factors -/
/-- U one + V two = g, which divides both -/
structure Bez (one two U V g : L) : Prop where
  eq : U * one + V * two = g
  l : Dvd g one
  r : Dvd g two
/-- division by a width that falls -/
theorem divide (a b : L) (hb : b ≠ 0) : ∃ q r, a = q * b + r ∧ Narrow r b := by
  obtain ⟨n, tn⟩ := exists_top hb
  obtain ⟨m, bm⟩ := exists_bot hb
  have hmn := bm.le_top tn
  have go : ∀ (k : Nat) (a : L), width a ≤ k → ∃ q r, a = q * b + r ∧ Narrow r b := by
    intro k
    induction k with
    | zero =>
      intro a hk
      by_cases e : a = 0
      · exact ⟨0, 0, by rw [e]; grind, narrow_zero b⟩
      · obtain ⟨n', tn'⟩ := exists_top e
        obtain ⟨m', bm'⟩ := exists_bot e
        rw [width_eq tn' bm'] at hk
        omega
    | succ k ih =>
      intro a hk
      by_cases e : a = 0
      · exact ⟨0, 0, by rw [e]; grind, narrow_zero b⟩
      · obtain ⟨n', tn'⟩ := exists_top e
        obtain ⟨m', bm'⟩ := exists_bot e
        have hmn' := bm'.le_top tn'
        by_cases w : n' - m' < n - m
        · refine ⟨0, a, by grind, fun x y hx hy => ⟨m', fun k hk => ?_⟩⟩
          have := hx.uniq tn
          have := hy.uniq bm
          have := tn'.2 k hk
          have := bm'.2 k hk
          omega
        · -- take the top away
          let c : Rat := a.co n' / b.co n
          have hbn : b.co n ≠ 0 := tn.1
          have hin : In m' n' (a - mono (n' - n) c * b) := fun k hk => by
            rw [co_sub, co_mono_mul] at hk
            have key : k ≠ n' := by
              intro ek
              apply hk
              rw [ek]
              have : n' - (n' - n) = n := by omega
              rw [this]
              show a.co n' - a.co n' / b.co n * b.co n = 0
              grind
            have : a.co k ≠ 0 ∨ b.co (k - (n' - n)) ≠ 0 := by
              apply Classical.byContradiction
              intro z
              have z1 : a.co k = 0 := Classical.byContradiction fun y => z (.inl y)
              have z2 : b.co (k - (n' - n)) = 0 := Classical.byContradiction fun y => z (.inr y)
              apply hk
              rw [z1, z2]
              grind
            rcases this with h1 | h1
            · have := tn'.2 k h1
              have := bm'.2 k h1
              omega
            · have := tn.2 _ h1
              have := bm.2 _ h1
              omega
          have hw : width (a - mono (n' - n) c * b) ≤ k := by
            by_cases e0 : a - mono (n' - n) c * b = 0
            · rw [e0, width_zero]
              omega
            · obtain ⟨n2, tn2⟩ := exists_top e0
              obtain ⟨m2, bm2⟩ := exists_bot e0
              rw [width_eq tn2 bm2]
              rw [width_eq tn' bm'] at hk
              have := hin _ tn2.1
              have := hin _ bm2.1
              have := bm2.le_top tn2
              omega
          obtain ⟨q, r, h1, h2⟩ := ih _ hw
          refine ⟨q + mono (n' - n) c, r, ?_, h2⟩
          grind
  exact go _ a (Nat.le_refl _)
theorem bezout (one two : L) : ∃ U V g, Bez one two U V g := by
  have go : ∀ (k : Nat) (one two : L), width two ≤ k → ∃ U V g, Bez one two U V g := by
    intro k
    induction k with
    | zero =>
      intro one two hk
      have e : two = 0 := Classical.byContradiction fun e => by
        obtain ⟨n', tn'⟩ := exists_top e
        obtain ⟨m', bm'⟩ := exists_bot e
        rw [width_eq tn' bm'] at hk
        omega
      subst e
      exact ⟨1, 0, one, by grind, Dvd.refl _, dvd_zero _⟩
    | succ k ih =>
      intro one two hk
      by_cases e : two = 0
      · subst e
        exact ⟨1, 0, one, by grind, Dvd.refl _, dvd_zero _⟩
      · obtain ⟨q, r, h1, h2⟩ := divide one two e
        obtain ⟨U, V, g, h3⟩ := ih two r (by have := narrow_lt h2 e; omega)
        refine ⟨V, U - V * q, g, ?_, ?_, h3.l⟩
        · have := h3.eq
          rw [h1]
          grind
        · have := h3.l.comb h3.r q 1
          have e2 : q * two + 1 * r = one := by rw [h1]; grind
          rw [e2] at this
          exact this
  exact go _ one two (Nat.le_refl _)
/-- a pair whose common factors are units is Bezout's -/
theorem bez_one {u v : L} (h : ∀ d, Dvd d u → Dvd d v → Dvd d 1) : ∃ U V, U * u + V * v = 1 := by
  obtain ⟨U, V, g, b⟩ := bezout u v
  obtain ⟨e, he⟩ := h g b.l b.r
  exact ⟨e * U, e * V, by rw [← he, ← b.eq]; grind⟩

/-! ### what fits -/
/-- some row of a table leads x to c and y to d -/
def Fits (xe xo ye yo c d : L) : Prop := ∃ p q, p * xe + q * xo = c ∧ p * ye + q * yo = d
/-- rows that tell: Cramer -/
theorem fits_tell {xe xo ye yo c d : L} (hD : xe * yo - xo * ye ≠ 0) :
    Fits xe xo ye yo c d ↔ Dvd (xe * yo - xo * ye) (c * yo - d * xo) ∧ Dvd (xe * yo - xo * ye) (d * xe - c * ye) := by
  constructor
  · rintro ⟨p, q, h1, h2⟩
    exact ⟨⟨p, by rw [← h1, ← h2]; grind⟩, ⟨q, by rw [← h1, ← h2]; grind⟩⟩
  · rintro ⟨⟨p, hp⟩, ⟨q, hq⟩⟩
    refine ⟨p, q, mul_cancel hD ?_, mul_cancel hD ?_⟩
    · grind
    · grind
theorem tell_leads {xe xo ye yo c d p q : L} (hD : xe * yo - xo * ye ≠ 0) (hp : p * (xe * yo - xo * ye) = c * yo - d * xo) (hq : q * (xe * yo - xo * ye) = d * xe - c * ye) :
    p * xe + q * xo = c ∧ p * ye + q * yo = d := by
  refine ⟨mul_cancel hD ?_, mul_cancel hD ?_⟩
  · grind
  · grind
theorem tell_uniq {xe xo ye yo p q p' q' : L} (hD : xe * yo - xo * ye ≠ 0) (h1 : p * xe + q * xo = p' * xe + q' * xo) (h2 : p * ye + q * yo = p' * ye + q' * yo) : p = p' ∧ q = q' := by
  refine ⟨mul_cancel hD ?_, mul_cancel hD ?_⟩
  · grind
  · grind
/-- rows that do not tell, along one pair: x = g (u, v), y = b (u, v) -/
structure Along (xe xo ye yo u v g b U V : L) : Prop where
  one : U * u + V * v = 1
  xe : g * u = xe
  xo : g * v = xo
  ye : b * u = ye
  yo : b * v = yo
theorem Along.fits {xe xo ye yo u v g b U V c d : L} (h : Along xe xo ye yo u v g b U V) : Fits xe xo ye yo c d ↔ ∃ t, t * g = c ∧ t * b = d := by
  obtain ⟨h1, h2, h3, h4, h5⟩ := h
  constructor
  · rintro ⟨p, q, e1, e2⟩
    exact ⟨p * u + q * v, by rw [← e1, ← h2, ← h3]; grind, by rw [← e2, ← h4, ← h5]; grind⟩
  · rintro ⟨t, e1, e2⟩
    refine ⟨t * U, t * V, ?_, ?_⟩
    · rw [← h2, ← h3, ← e1]
      have : t * U * (g * u) + t * V * (g * v) = t * g * (U * u + V * v) := by grind
      rw [this, h1]
      grind
    · rw [← h4, ← h5, ← e2]
      have : t * U * (b * u) + t * V * (b * v) = t * b * (U * u + V * v) := by grind
      rw [this, h1]
      grind
theorem Along.swap {xe xo ye yo u v g b U V : L} (h : Along xe xo ye yo u v g b U V) : Along ye yo xe xo u v b g U V := ⟨h.one, h.ye, h.yo, h.xe, h.xo⟩
/-- the other pair lies along the coprime pair of the first, which is not nought -/
theorem along_of {xe xo ye yo u v g U V : L} (hD : xe * yo - xo * ye = 0) (hg : g ≠ 0) (one : U * u + V * v = 1) (e1 : g * u = xe) (e2 : g * v = xo) : Along xe xo ye yo u v g (U * ye + V * yo) U V := by
  have k : u * yo = v * ye := mul_cancel hg (by
    have : g * u * yo - g * v * ye = 0 := by rw [e1, e2]; exact hD
    grind)
  refine ⟨one, e1, e2, ?_, ?_⟩
  · have : (U * ye + V * yo) * u = ye * (U * u + V * v) + V * (u * yo - v * ye) := by grind
    rw [this, one, k]
    grind
  · have : (U * ye + V * yo) * v = yo * (U * u + V * v) - U * (u * yo - v * ye) := by grind
    rw [this, one, k]
    grind
theorem fits_zero {c d : L} : Fits 0 0 0 0 c d ↔ c = 0 ∧ d = 0 := by
  constructor
  · rintro ⟨p, q, h1, h2⟩
    exact ⟨by rw [← h1]; grind, by rw [← h2]; grind⟩
  · rintro ⟨rfl, rfl⟩
    exact ⟨0, 0, by grind, by grind⟩
/-- a coprime pair has a number -/
theorem cop_ne {u v U V : L} (h : U * u + V * v = 1) : u ≠ 0 ∨ v ≠ 0 := by
  by_cases e : u = 0
  · refine .inr fun e2 => ?_
    rw [e, e2] at h
    have h1 : (1 : L) ≠ 0 := by
      rw [one_eq]
      exact mono_ne (by decide)
    exact h1 (by rw [← h]; grind)
  · exact .inl e
theorem one_ne : (1 : L) ≠ 0 := by
  rw [one_eq]
  exact mono_ne (by decide)
/-- parts over their greatest common factor -/
theorem cop_of_gcd {a b g u v : L} (hg : g ≠ 0) (h1 : u * g = a) (h2 : v * g = b) (h : ∀ d, Dvd d a → Dvd d b → Dvd d g) : ∃ U V, U * u + V * v = 1 := by
  refine bez_one fun d ⟨p, hp⟩ ⟨q, hq⟩ => ?_
  obtain ⟨s, hs⟩ := h (d * g) ⟨p, by rw [← h1, ← hp]; grind⟩ ⟨q, by rw [← h2, ← hq]; grind⟩
  exact ⟨s, mul_cancel hg (by grind)⟩
theorem cop_of_bez {a b g u v U V : L} (hg : g ≠ 0) (h1 : u * g = a) (h2 : v * g = b) (h : Bez a b U V g) : U * u + V * v = 1 := mul_cancel hg (by
  have := h.eq
  grind)
end K65

namespace K65
/-! ### rows: a start and numbers, against L -/
def rowL : Int → List Rat → L
  | _, [] => 0
  | s, x :: xs => mono s x + rowL (s + 1) xs
/-- the number at a place of a list -/
def nth (xs : List Rat) (i : Int) : Rat := if 0 ≤ i then xs.getD i.toNat 0 else 0
theorem getD_out {xs : List Rat} {i : Nat} (h : xs.length ≤ i) : xs.getD i 0 = 0 := by
  rw [List.getD_eq_getElem?_getD, List.getElem?_eq_none h]
  rfl
theorem nth_nat (xs : List Rat) (i : Nat) : nth xs (i : Int) = xs.getD i 0 := by
  unfold nth
  rw [if_pos (by omega)]
  congr 1
theorem co_rowL : ∀ (xs : List Rat) (s k : Int), (rowL s xs).co k = nth xs (k - s)
  | [], s, k => by
    show (0 : L).co k = _
    rw [co_zero]
    unfold nth
    split <;> simp
  | x :: xs, s, k => by
    show (mono s x + rowL (s + 1) xs).co k = _
    rw [co_add, co_mono, co_rowL xs (s + 1) k]
    unfold nth
    by_cases e : s = k
    · subst e
      rw [if_pos rfl, if_neg (by omega), if_pos (by omega)]
      have : (s - s).toNat = 0 := by omega
      rw [this]
      simp
      grind
    · rw [if_neg e]
      by_cases h : 0 ≤ k - s
      · rw [if_pos h, if_pos (by omega)]
        have : (k - s).toNat = (k - (s + 1)).toNat + 1 := by omega
        rw [this]
        simp
        grind
      · rw [if_neg h, if_neg (by omega)]
        grind
theorem nth_out {xs : List Rat} {i : Int} (h : i < 0 ∨ (xs.length : Int) ≤ i) : nth xs i = 0 := by
  unfold nth
  split
  · rw [getD_out (by omega)]
  · rfl
theorem nth_get {xs : List Rat} {i : Nat} {x : Rat} (h : xs[i]? = some x) : nth xs (i : Int) = x := by
  rw [nth_nat, List.getD_eq_getElem?_getD, h]
  rfl
theorem rowL_in (s : Int) (xs : List Rat) : In s (s + xs.length) (rowL s xs) := fun k hk => by
  rw [co_rowL] at hk
  apply Classical.byContradiction
  intro z
  exact hk (nth_out (by omega))
theorem rowL_later (n s : Int) (xs : List Rat) : later n (rowL s xs) = rowL (n + s) xs := L.eq_of_co fun k => by
  rw [co_later, co_rowL, co_rowL]
  congr 1
  omega
theorem rowL_map_add (s : Int) (f g : Nat → Rat) (n : Nat) : rowL s ((List.range n).map fun i => f i + g i) = rowL s ((List.range n).map f) + rowL s ((List.range n).map g) := L.eq_of_co fun k => by
  rw [co_add, co_rowL, co_rowL, co_rowL]
  unfold nth
  split
  · simp only [List.getD_eq_getElem?_getD, List.getElem?_map]
    cases (List.range n)[(k - s).toNat]? <;> simp
    grind
  · grind
/-- a row in its form -/
def Nrm (s : Int) (xs : List Rat) : Prop := (xs = [] ∧ s = 0) ∨ (xs ≠ [] ∧ nth xs 0 ≠ 0 ∧ nth xs ((xs.length : Int) - 1) ≠ 0)
abbrev Row := Int × List Rat
def IsRow (r : Row) (p : L) : Prop := Nrm r.1 r.2 ∧ rowL r.1 r.2 = p
theorem nrm_bot {s : Int} {xs : List Rat} (h : nth xs 0 ≠ 0) : Bot (rowL s xs) s := by
  refine ⟨by rw [co_rowL]; have : s - s = 0 := by omega
             rw [this]; exact h, fun k hk => (rowL_in s xs k hk).1⟩
theorem nrm_top {s : Int} {xs : List Rat} (h : nth xs ((xs.length : Int) - 1) ≠ 0) : Top (rowL s xs) (s + xs.length - 1) := by
  refine ⟨by rw [co_rowL]; have : s + xs.length - 1 - s = (xs.length : Int) - 1 := by omega
             rw [this]; exact h, fun k hk => by have := (rowL_in s xs k hk).2; omega⟩
theorem IsRow.ne {r : Row} {p : L} (h : IsRow r p) (hp : p ≠ 0) : r.2 ≠ [] ∧ Bot p r.1 ∧ Top p (r.1 + r.2.length - 1) := by
  obtain ⟨n, e⟩ := h
  rcases n with ⟨n1, n2⟩ | ⟨n1, n2, n3⟩
  · exfalso
    apply hp
    rw [← e, n1]
    rfl
  · rw [← e]
    exact ⟨n1, nrm_bot n2, nrm_top n3⟩
theorem IsRow.zero {r : Row} (h : IsRow r 0) : r = (0, []) := by
  obtain ⟨n, e⟩ := h
  obtain ⟨s, xs⟩ := r
  rcases n with ⟨n1, n2⟩ | ⟨n1, n2, n3⟩
  · simp only at n1 n2
    rw [n1, n2]
  · exact absurd e (nrm_bot n2).ne
theorem isRow_nought : IsRow (0, []) 0 := ⟨.inl ⟨rfl, rfl⟩, rfl⟩
theorem IsRow.get {r : Row} {p : L} (h : IsRow r p) (i : Nat) : r.2.getD i 0 = p.co (r.1 + i) := by
  rw [← h.2, co_rowL, ← nth_nat]
  congr 1
  omega
theorem IsRow.uniq {r r' : Row} {p : L} (h : IsRow r p) (h' : IsRow r' p) : r = r' := by
  by_cases e : p = 0
  · subst e
    rw [h.zero, h'.zero]
  · obtain ⟨a1, a2, a3⟩ := h.ne e
    obtain ⟨b1, b2, b3⟩ := h'.ne e
    have e1 := a2.uniq b2
    have e2 := a3.uniq b3
    obtain ⟨s, xs⟩ := r
    obtain ⟨t, ys⟩ := r'
    simp only at e1 e2 a1 b1
    subst e1
    have hl : xs.length = ys.length := by omega
    congr 1
    apply List.ext_getElem?
    intro i
    have g1 := h.get i
    have g2 := h'.get i
    simp only at g1 g2
    by_cases hi : i < xs.length
    · rw [List.getD_eq_getElem?_getD, List.getElem?_eq_getElem hi] at g1
      rw [List.getD_eq_getElem?_getD, List.getElem?_eq_getElem (by omega : i < ys.length)] at g2
      rw [List.getElem?_eq_getElem hi, List.getElem?_eq_getElem (by omega : i < ys.length)]
      simp only [Option.getD_some] at g1 g2
      rw [g1, g2]
    · rw [List.getElem?_eq_none (by omega), List.getElem?_eq_none (by omega)]
theorem rowL_range (p : L) {a b : Int} (h : In a b p) : rowL a ((List.range (b - a).toNat).map fun i : Nat => p.co (a + (i : Int))) = p := L.eq_of_co fun k => by
  rw [co_rowL]
  by_cases e : a ≤ k ∧ k < b
  · have e2 : k - a = (((k - a).toNat : Nat) : Int) := by omega
    rw [e2, nth_nat, List.getD_eq_getElem?_getD, List.getElem?_map, List.getElem?_range (by omega)]
    show p.co _ = _
    congr 1
    omega
  · rw [nth_out (by simp; omega)]
    apply Classical.byContradiction
    intro z
    exact e (h k (fun y => z (by rw [y])))
theorem exists_row (p : L) : ∃ r, IsRow r p := by
  by_cases e : p = 0
  · subst e
    exact ⟨_, isRow_nought⟩
  · obtain ⟨n, tn⟩ := exists_top e
    obtain ⟨m, bm⟩ := exists_bot e
    have hmn := bm.le_top tn
    have hin : In m (n + 1) p := fun k hk => ⟨bm.2 k hk, by have := tn.2 k hk; omega⟩
    refine ⟨(m, (List.range (n + 1 - m).toNat).map fun i : Nat => p.co (m + (i : Int))), .inr ⟨?_, ?_, ?_⟩, rowL_range p hin⟩
    · intro z
      have := congrArg List.length z
      simp at this
      omega
    · have e0 : (0 : Int) = ((0 : Nat) : Int) := rfl
      simp only
      rw [e0, nth_nat, List.getD_eq_getElem?_getD, List.getElem?_map, List.getElem?_range (by omega)]
      show p.co (m + ((0 : Nat) : Int)) ≠ 0
      have : m + ((0 : Nat) : Int) = m := by omega
      rw [this]
      exact bm.1
    · simp only
      have el : (((List.range (n + 1 - m).toNat).map fun i : Nat => p.co (m + (i : Int))).length : Int) - 1 = (((n - m).toNat : Nat) : Int) := by simp; omega
      rw [el, nth_nat, List.getD_eq_getElem?_getD, List.getElem?_map, List.getElem?_range (by omega)]
      show p.co (m + ((n - m).toNat : Nat)) ≠ 0
      have : m + ((n - m).toNat : Nat) = n := by omega
      rw [this]
      exact tn.1
noncomputable def rowOf (p : L) : Row := (exists_row p).choose
theorem rowOf_is (p : L) : IsRow (rowOf p) p := (exists_row p).choose_spec
theorem rowOf_eq {r : Row} {p : L} (h : IsRow r p) : rowOf p = r := (rowOf_is p).uniq h
theorem rowOf_zero : rowOf 0 = (0, []) := (rowOf_is 0).zero
theorem rowOf_inj {p q : L} (h : rowOf p = rowOf q) : p = q := by
  rw [← (rowOf_is p).2, ← (rowOf_is q).2, h]
theorem rowOf_zero_iff {p : L} : rowOf p = (0, []) ↔ p = 0 := by
  constructor
  · intro h
    exact rowOf_inj (by rw [h, rowOf_zero])
  · intro h
    rw [h, rowOf_zero]
theorem rowOf_one : rowOf 1 = (0, [1]) := rowOf_eq ⟨.inr ⟨by simp, by decide, by decide⟩, by
  show mono 0 1 + 0 = 1
  rw [one_eq]
  exact L.add_zero _⟩
/-- what row_by cuts -/
theorem rowOf_cut {s : Int} {xs : List Rat} {low high : Nat} (h1 : low ≤ high) (h2 : high ≤ xs.length) (hl : ∀ i, i < low → xs.getD i 0 = 0) (hh : ∀ i, high ≤ i → xs.getD i 0 = 0)
    (hb : low < high → xs.getD low 0 ≠ 0 ∧ xs.getD (high - 1) 0 ≠ 0) :
    rowOf (rowL s xs) = if low < high then (s + low, (xs.drop low).take (high - low)) else (0, []) := by
  have gd : ∀ i : Nat, i < high - low → ((xs.drop low).take (high - low)).getD i 0 = xs.getD (low + i) 0 := fun i hi => by
    rw [List.getD_eq_getElem?_getD, List.getD_eq_getElem?_getD, List.getElem?_take, if_pos hi, List.getElem?_drop]
  have ll : ((xs.drop low).take (high - low)).length = high - low := by simp; omega
  by_cases e : low < high
  · rw [if_pos e]
    obtain ⟨b1, b2⟩ := hb e
    refine rowOf_eq ⟨.inr ⟨?_, ?_, ?_⟩, L.eq_of_co fun k => ?_⟩
    · intro z
      have := congrArg List.length z
      rw [ll] at this
      simp at this
      omega
    · show nth _ ((0 : Nat) : Int) ≠ 0
      rw [nth_nat, gd 0 (by omega)]
      exact b1
    · have e1 : ((((xs.drop low).take (high - low)).length : Nat) : Int) - 1 = ((high - low - 1 : Nat) : Int) := by rw [ll]; omega
      show nth _ _ ≠ 0
      rw [e1, nth_nat, gd _ (by omega)]
      have : low + (high - low - 1) = high - 1 := by omega
      rw [this]
      exact b2
    · rw [co_rowL, co_rowL]
      by_cases z : 0 ≤ k - (s + low)
      · have e1 : k - (s + low) = (((k - (s + low)).toNat : Nat) : Int) := by omega
        have e2 : k - s = ((low + (k - (s + low)).toNat : Nat) : Int) := by omega
        rw [e1, e2, nth_nat, nth_nat]
        by_cases y : (k - (s + low)).toNat < high - low
        · exact gd _ y
        · rw [hh _ (by omega), getD_out (by show ((xs.drop low).take (high - low)).length ≤ _; rw [ll]; omega)]
      · rw [nth_out (.inl (by omega))]
        by_cases y : 0 ≤ k - s
        · have e2 : k - s = (((k - s).toNat : Nat) : Int) := by omega
          rw [e2, nth_nat, hl _ (by omega)]
        · rw [nth_out (.inl (by omega))]
  · rw [if_neg e]
    refine rowOf_eq (r := (0, [])) ?_
    have : rowL s xs = 0 := L.eq_of_co fun k => by
      rw [co_rowL, co_zero]
      by_cases y : 0 ≤ k - s
      · have e2 : k - s = (((k - s).toNat : Nat) : Int) := by omega
        rw [e2, nth_nat]
        by_cases z : (k - s).toNat < low
        · exact hl _ z
        · exact hh _ (by omega)
      · exact nth_out (.inl (by omega))
    rw [this]
    exact isRow_nought
theorem rowL_set {s : Int} {xs : List Rat} {k : Nat} (h : k < xs.length) (v : Rat) : rowL s (xs.set k v) = rowL s xs + mono (s + k) (v - xs.getD k 0) := L.eq_of_co fun j => by
  rw [co_add, co_rowL, co_rowL, co_mono]
  by_cases e : 0 ≤ j - s
  · have e2 : j - s = (((j - s).toNat : Nat) : Int) := by omega
    rw [e2, nth_nat, nth_nat]
    simp only [List.getD_eq_getElem?_getD, List.getElem?_set]
    by_cases z : k = (j - s).toNat
    · rw [if_pos z, if_pos (by omega), if_pos (by omega), ← z]
      simp
      grind
    · rw [if_neg z, if_neg (by omega)]
      grind
  · rw [nth_out (.inl (by omega)), nth_out (.inl (by omega)), if_neg (by omega)]
    grind
theorem rowL_zeros (s : Int) (n : Nat) : rowL s (List.replicate n 0) = 0 := L.eq_of_co fun k => by
  rw [co_rowL, co_zero]
  unfold nth
  split
  · rw [List.getD_eq_getElem?_getD, List.getElem?_replicate]
    split <;> rfl
  · rfl
theorem rowL_snoc (s : Int) (xs : List Rat) (x : Rat) : rowL s (xs ++ [x]) = rowL s xs + mono (s + xs.length) x := by
  induction xs generalizing s with
  | nil =>
    show mono s x + 0 = 0 + mono (s + ((0 : Nat) : Int)) x
    have : s + ((0 : Nat) : Int) = s := by omega
    rw [this]
    grind
  | cons y ys ih =>
    show mono s y + rowL (s + 1) (ys ++ [x]) = mono s y + rowL (s + 1) ys + mono (s + (y :: ys).length) x
    rw [ih, List.length_cons]
    have : s + 1 + (ys.length : Int) = s + ((ys.length + 1 : Nat) : Int) := by omega
    rw [this]
    grind
theorem rowL_take_succ {s : Int} {xs : List Rat} {i : Nat} (h : i < xs.length) : rowL s (xs.take (i + 1)) = rowL s (xs.take i) + mono (s + i) xs[i] := by
  rw [List.take_succ_eq_append_getElem h, rowL_snoc]
  congr 2
  simp
  omega
/-- the width of a row is its length -/
theorem row_len {r : Row} {p : L} (h : IsRow r p) : r.2.length = width p := by
  by_cases e : p = 0
  · subst e
    rw [h.zero, width_zero]
    rfl
  · obtain ⟨a1, a2, a3⟩ := h.ne e
    rw [width_eq a3 a2]
    have : r.2.length ≠ 0 := fun z => a1 (List.eq_nil_of_length_eq_zero z)
    omega
theorem even_row (p : L) {a b : Int} (h : In a b p) : rowL ((a + 1) / 2) ((List.range ((b + 1) / 2 - (a + 1) / 2).toNat).map fun i : Nat => p.co (2 * ((a + 1) / 2 + (i : Int)))) = even p := by
  have hin : In ((a + 1) / 2) ((b + 1) / 2) (even p) := fun k hk => by
    rw [co_even] at hk
    have := h _ hk
    omega
  have := rowL_range (even p) hin
  simp only [co_even] at this
  exact this
theorem odd_row (p : L) {a b : Int} (h : In a b p) : rowL ((a - 1 + 1) / 2) ((List.range ((b - 1 + 1) / 2 - (a - 1 + 1) / 2).toNat).map fun i : Nat => p.co (2 * ((a - 1 + 1) / 2 + (i : Int)) + 1)) = odd p := by
  have hin : In ((a - 1 + 1) / 2) ((b - 1 + 1) / 2) (odd p) := fun k hk => by
    rw [co_odd] at hk
    have := h _ hk
    omega
  have := rowL_range (odd p) hin
  simp only [co_odd] at this
  exact this
end K65

namespace K65
/-! ### division by steps, from the top -/
def dvl (b : L) (n s0 : Int) : Nat → L → L × L
  | 0, l => (0, l)
  | m + 1, l =>
    let f := l.co (n + s0 + m) / b.co n
    let r := dvl b n s0 m (l - mono (s0 + m) f * b)
    (r.1 + mono (s0 + m) f, r.2)
theorem dvl_eq (b : L) (n s0 : Int) : ∀ (m : Nat) (l : L), l = (dvl b n s0 m l).1 * b + (dvl b n s0 m l).2
  | 0, l => by
    show l = 0 * b + l
    grind
  | m + 1, l => by
    have ih := dvl_eq b n s0 m (l - mono (s0 + m) (l.co (n + s0 + m) / b.co n) * b)
    show l = ((dvl b n s0 m (l - mono (s0 + m) (l.co (n + s0 + m) / b.co n) * b)).1 + mono (s0 + m) (l.co (n + s0 + m) / b.co n)) * b + (dvl b n s0 m (l - mono (s0 + m) (l.co (n + s0 + m) / b.co n) * b)).2
    generalize (dvl b n s0 m (l - mono (s0 + m) (l.co (n + s0 + m) / b.co n) * b)).1 = x at ih ⊢
    generalize (dvl b n s0 m (l - mono (s0 + m) (l.co (n + s0 + m) / b.co n) * b)).2 = y at ih ⊢
    grind
/-- one step: the top is taken away -/
theorem step_in {b l : L} {n m0 s0 A : Int} {m : Nat} (ht : Top b n) (hb : Bot b m0) (hA : A ≤ m0 + s0) (h : In A (n + s0 + m + 1) l) : In A (n + s0 + m) (l - mono (s0 + m) (l.co (n + s0 + m) / b.co n) * b) := fun k hk => by
  rw [co_sub, co_mono_mul] at hk
  have key : k ≠ n + s0 + m := by
    intro e
    apply hk
    rw [e]
    have : n + s0 + (m : Int) - (s0 + m) = n := by omega
    rw [this]
    have := ht.1
    grind
  have : l.co k ≠ 0 ∨ b.co (k - (s0 + m)) ≠ 0 := by
    apply Classical.byContradiction
    intro z
    have z1 : l.co k = 0 := Classical.byContradiction fun y => z (.inl y)
    have z2 : b.co (k - (s0 + m)) = 0 := Classical.byContradiction fun y => z (.inr y)
    apply hk
    rw [z1, z2]
    grind
  rcases this with q | q
  · have := h k q
    omega
  · have := ht.2 _ q
    have := hb.2 _ q
    omega
theorem dvl_in {b : L} {n m0 s0 A : Int} (ht : Top b n) (hb : Bot b m0) (hA : A ≤ m0 + s0) : ∀ (m : Nat) (l : L), In A (n + s0 + m) l → In A (n + s0) (dvl b n s0 m l).2
  | 0, l, h => by
    have : n + s0 + ((0 : Nat) : Int) = n + s0 := by omega
    rw [this] at h
    exact h
  | m + 1, l, h => by
    refine dvl_in ht hb hA m _ (step_in ht hb hA ?_)
    have : n + s0 + ((m + 1 : Nat) : Int) = n + s0 + m + 1 := by omega
    rw [this] at h
    exact h
/-- the quotient and the rest of the first row by the second one -/
noncomputable def dv (p q : L) : L × L := dvl q ((rowOf q).1 + (rowOf q).2.length - 1) ((rowOf p).1 - (rowOf q).1) ((rowOf p).2.length + 1 - (rowOf q).2.length) p
theorem row_in (p : L) : In (rowOf p).1 ((rowOf p).1 + (rowOf p).2.length) p := by
  have := rowL_in (rowOf p).1 (rowOf p).2
  rw [(rowOf_is p).2] at this
  exact this
theorem dv_eq (p q : L) : p = (dv p q).1 * q + (dv p q).2 := dvl_eq _ _ _ _ _
theorem dv_in {p q : L} (hq : q ≠ 0) : In (rowOf p).1 ((rowOf p).1 + width q - 1) (dv p q).2 := by
  obtain ⟨a1, a2, a3⟩ := (rowOf_is q).ne hq
  have hw : (rowOf q).2.length = width q := row_len (rowOf_is q)
  have h1 : (rowOf q).2.length ≠ 0 := fun z => a1 (List.eq_nil_of_length_eq_zero z)
  unfold dv
  have hi := row_in p
  have := dvl_in (s0 := (rowOf p).1 - (rowOf q).1) (A := (rowOf p).1) a3 a2 (by omega) ((rowOf p).2.length + 1 - (rowOf q).2.length) p (hi.mono (Int.le_refl _) (by omega))
  exact this.mono (Int.le_refl _) (by omega)
theorem narrow_of {p q : L} {A : Int} (hq : q ≠ 0) (h : In A (A + width q - 1) p) : Narrow p q := fun n m tn bm => ⟨A, h.mono (Int.le_refl _) (by
  have := width_eq tn bm
  have := bm.le_top tn
  omega)⟩
theorem dv_narrow {p q : L} (hq : q ≠ 0) : Narrow (dv p q).2 q := narrow_of hq (dv_in hq)
/-- anchored, there is one quotient and one rest -/
theorem dv_uniq {p q c r : L} (hq : q ≠ 0) (e : p = c * q + r) (h : In (rowOf p).1 ((rowOf p).1 + width q - 1) r) : dv p q = (c, r) := by
  have e1 := dv_eq p q
  have h1 := dv_in (p := p) hq
  have e2 : (c - (dv p q).1) * q = (dv p q).2 - r := by grind
  have hin : In (rowOf p).1 ((rowOf p).1 + width q - 1) ((dv p q).2 - r) := fun k hk => by
    rw [co_sub] at hk
    by_cases z : (dv p q).2.co k = 0
    · exact h k fun y => hk (by rw [z, y]; grind)
    · exact h1 k z
  have z : c - (dv p q).1 = 0 := narrow_mul (d := q) (by rw [e2]; exact narrow_of hq hin) hq
  have z1 : (dv p q).1 = c := by grind
  have z2 : (dv p q).2 = r := by
    rw [z1] at e1
    grind
  rw [← z1, ← z2]
theorem dv_rest {p q : L} (hq : q ≠ 0) : (dv p q).2 = 0 ↔ Dvd q p := rest_zero hq (dv_eq p q) (dv_narrow hq)
theorem dv_quot {p q c : L} (hq : q ≠ 0) (h : c * q = p) : (dv p q).1 = c := by
  have h0 := (dv_rest hq).mpr ⟨c, h⟩
  have e := dv_eq p q
  rw [h0] at e
  exact mul_cancel hq (by rw [h]; grind)
theorem rowOf_bot {p : L} {m : Int} (h : Bot p m) : (rowOf p).1 = m := ((rowOf_is p).ne h.ne).2.1.uniq h
/-- the same quotient of both over a common factor -/
theorem dv_scale {g u v : L} (hg : g ≠ 0) (hv : v ≠ 0) (hu : u ≠ 0) : (dv (g * u) (g * v)).1 = (dv u v).1 ∧ (dv (g * u) (g * v)).2 = g * (dv u v).2 := by
  have hgv : g * v ≠ 0 := mul_ne hg hv
  obtain ⟨gt, tg⟩ := exists_top hg
  obtain ⟨gb, bg⟩ := exists_bot hg
  obtain ⟨ut, tu⟩ := exists_top hu
  obtain ⟨ub, bu⟩ := exists_bot hu
  obtain ⟨vt, tv⟩ := exists_top hv
  obtain ⟨vb, bv⟩ := exists_bot hv
  have h1 := dv_in (p := u) hv
  rw [rowOf_bot bu, width_eq tv bv] at h1
  have e := dv_uniq (p := g * u) (q := g * v) (c := (dv u v).1) (r := g * (dv u v).2) hgv (by
    have := dv_eq u v
    conv => lhs; rw [this]
    grind) (fun k hk => by
    obtain ⟨i, j, hij, hi, hj⟩ := co_mul_in hk
    rw [rowOf_bot (bg.mul bu), width_eq (tg.mul tv) (bg.mul bv)]
    have := bg.2 i hi
    have := tg.2 i hi
    have := h1 j hj
    have := bg.le_top tg
    have := bv.le_top tv
    omega)
  rw [e]
  exact ⟨rfl, rfl⟩
theorem rowOf_start_zero : (rowOf (0 : L)).1 = 0 := by rw [rowOf_zero]
theorem dv_zero {q : L} (hq : q ≠ 0) : dv 0 q = (0, 0) := dv_uniq hq (by grind) (fun k hk => absurd (co_zero k) hk)

/-! ### heights -/
/-- m times each number is a whole number of at most 2 ^ e -/
def Hw (m e : Nat) (p : L) : Prop := 0 < m ∧ ∀ k, ∃ n : Int, (n : Rat) = (m : Rat) * p.co k ∧ n.natAbs ≤ 2 ^ e
theorem Hw.mono {m e e' : Nat} {p : L} (h : Hw m e p) (he : e ≤ e') : Hw m e' p := ⟨h.1, fun k => by
  obtain ⟨n, h1, h2⟩ := h.2 k
  exact ⟨n, h1, Nat.le_trans h2 (Nat.pow_le_pow_right (by decide) he)⟩⟩
theorem hw_zero {m e : Nat} (hm : 0 < m) : Hw m e 0 := ⟨hm, fun k => ⟨0, by rw [co_zero]; grind, Nat.zero_le _⟩⟩
theorem pow_add_le {a b : Nat} {e : Nat} (ha : a ≤ 2 ^ e) (hb : b ≤ 2 ^ e) : a + b ≤ 2 ^ (e + 1) := by
  rw [Nat.pow_succ]
  omega
theorem natAbs_sub_le' (a b : Int) : (a - b).natAbs ≤ a.natAbs + b.natAbs := by omega
theorem Hw.add {m e : Nat} {p q : L} (hp : Hw m e p) (hq : Hw m e q) : Hw m (e + 1) (p + q) := ⟨hp.1, fun k => by
  obtain ⟨a, a1, a2⟩ := hp.2 k
  obtain ⟨b, b1, b2⟩ := hq.2 k
  exact ⟨a + b, by rw [co_add, Rat.intCast_add, a1, b1]; grind, Nat.le_trans (Int.natAbs_add_le a b) (pow_add_le a2 b2)⟩⟩
theorem Hw.sub {m e : Nat} {p q : L} (hp : Hw m e p) (hq : Hw m e q) : Hw m (e + 1) (p - q) := ⟨hp.1, fun k => by
  obtain ⟨a, a1, a2⟩ := hp.2 k
  obtain ⟨b, b1, b2⟩ := hq.2 k
  exact ⟨a - b, by rw [co_sub, Rat.intCast_sub, a1, b1]; grind, Nat.le_trans (natAbs_sub_le' a b) (pow_add_le a2 b2)⟩⟩
theorem Hw.scale {m e c x : Nat} {p : L} (h : Hw m e p) (hc : 0 < c) (hx : c ≤ 2 ^ x) : Hw (m * c) (e + x) p := ⟨Nat.mul_pos h.1 hc, fun k => by
  obtain ⟨n, h1, h2⟩ := h.2 k
  refine ⟨n * (c : Int), ?_, ?_⟩
  · rw [Rat.intCast_mul, h1, Rat.natCast_mul, Rat.intCast_natCast]
    grind
  · rw [Int.natAbs_mul, Nat.pow_add]
    exact Nat.mul_le_mul h2 (by simpa using hx)⟩
theorem Hw.even {m e : Nat} {p : L} (h : Hw m e p) : Hw m e (even p) := ⟨h.1, fun k => by rw [co_even]; exact h.2 _⟩
theorem Hw.odd {m e : Nat} {p : L} (h : Hw m e p) : Hw m e (odd p) := ⟨h.1, fun k => by rw [co_odd]; exact h.2 _⟩
theorem Hw.later {m e : Nat} {p : L} (h : Hw m e p) (n : Int) : Hw m e (later n p) := ⟨h.1, fun k => by rw [co_later]; exact h.2 _⟩
theorem Hw.spread {m e : Nat} {p : L} (h : Hw m e p) : Hw m e (spread p) := ⟨h.1, fun k => by
  rw [co_spread]
  split
  · exact h.2 _
  · exact ⟨0, by grind, Nat.zero_le _⟩⟩
theorem hw_mono {m e : Nat} {k : Int} {c : Rat} {n : Int} (hm : 0 < m) (h : (n : Rat) = m * c) (hn : n.natAbs ≤ 2 ^ e) : Hw m e (mono k c) := ⟨hm, fun j => by
  rw [co_mono]
  split
  · exact ⟨n, h, hn⟩
  · exact ⟨0, by grind, Nat.zero_le _⟩⟩
/-- a product, by the number of terms -/
theorem Hw.mul {m e m' f : Nat} (q : L) (hq : Hw m' f q) : ∀ (xs : List Rat) (s : Int) (w : Nat), xs.length ≤ 2 ^ w → (∀ x ∈ xs, ∃ n : Int, (n : Rat) = m * x ∧ n.natAbs ≤ 2 ^ e) → 0 < m → ∀ k, ∃ n : Int, (n : Rat) = ((m * m' : Nat) : Rat) * (rowL s xs * q).co k ∧ n.natAbs ≤ xs.length * 2 ^ (e + f)
  | [], s, w, hl, h, hm, k => ⟨0, by
      show (0 : Rat) = _
      have : rowL s [] * q = 0 := by
        show (0 : L) * q = 0
        grind
      rw [this, co_zero]
      grind, by simp⟩
  | x :: xs, s, w, hl, h, hm, k => by
    obtain ⟨n, n1, n2⟩ := Hw.mul q hq xs (s + 1) w (by rw [List.length_cons] at hl; omega) (fun y hy => h y (List.mem_cons_of_mem _ hy)) hm k
    obtain ⟨a, a1, a2⟩ := h x List.mem_cons_self
    obtain ⟨b, b1, b2⟩ := hq.2 (k - s)
    refine ⟨n + a * b, ?_, ?_⟩
    · have : rowL s (x :: xs) * q = K65.mono s x * q + rowL (s + 1) xs * q := by
        show (K65.mono s x + rowL (s + 1) xs) * q = _
        grind
      rw [this, co_add, co_mono_mul, Rat.intCast_add, Rat.intCast_mul, n1, a1, b1, Rat.natCast_mul]
      grind
    · rw [List.length_cons, Nat.add_mul]
      refine Nat.le_trans (Int.natAbs_add_le _ _) ?_
      have : (a * b).natAbs ≤ 2 ^ (e + f) := by
        rw [Int.natAbs_mul, Nat.pow_add]
        exact Nat.mul_le_mul a2 b2
      omega
theorem Hw.prod {m e m' f w : Nat} {p q : L} (hp : Hw m e p) (hq : Hw m' f q) (hw : width p ≤ 2 ^ w) : Hw (m * m') (e + f + w) (p * q) := ⟨Nat.mul_pos hp.1 hq.1, fun k => by
  have hl : (rowOf p).2.length = width p := row_len (rowOf_is p)
  have hx : ∀ x ∈ (rowOf p).2, ∃ n : Int, (n : Rat) = m * x ∧ n.natAbs ≤ 2 ^ e := fun x hx => by
    obtain ⟨i, hi, e⟩ := List.mem_iff_getElem.mp hx
    have g := (rowOf_is p).get i
    rw [List.getD_eq_getElem?_getD, List.getElem?_eq_getElem hi, e] at g
    simp only [Option.getD_some] at g
    rw [g]
    exact hp.2 _
  obtain ⟨n, n1, n2⟩ := Hw.mul q hq (rowOf p).2 (rowOf p).1 w (by rw [hl]; exact hw) hx hp.1 k
  rw [(rowOf_is p).2] at n1
  refine ⟨n, n1, Nat.le_trans n2 ?_⟩
  rw [hl, Nat.pow_add _ (e + f) w, Nat.mul_comm]
  exact Nat.mul_le_mul_left _ hw⟩
/-- one step of a division -/
theorem hw_step {m e μ f : Nat} {l b : L} {n s : Int} (hl : Hw m e l) (hb : Hw μ f b) (hμ : μ ≤ 2 ^ f) (hn : b.co n ≠ 0) (B : Nat) (hB : ∃ z : Int, (z : Rat) = μ * b.co n ∧ z.natAbs = B) :
    0 < B ∧ B ≤ 2 ^ f ∧ Hw (m * B) (e + f + 1) (l - mono s (l.co (n + s) / b.co n) * b) ∧ Hw (m * B) (e + f) (mono s (l.co (n + s) / b.co n)) := by
  obtain ⟨z, z1, z2⟩ := hB
  have hz : z ≠ 0 := by
    intro y
    subst y
    have : (μ : Rat) ≠ 0 := by
      have := hb.1
      intro w
      have : (μ : Nat) = 0 := by exact_mod_cast w
      omega
    have z1 : (0 : Rat) = μ * b.co n := z1
    rcases Rat.mul_eq_zero.mp z1.symm with w | w
    · exact this w
    · exact hn w
  have hB0 : 0 < B := by omega
  have hBf : B ≤ 2 ^ f := by
    obtain ⟨y, y1, y2⟩ := hb.2 n
    have : (y : Rat) = (z : Rat) := by rw [y1, z1]
    have : y = z := by exact_mod_cast this
    subst this
    omega
  -- the sign of z
  obtain ⟨sg, hs1, hs2⟩ : ∃ sg : Int, (B : Int) = sg * z ∧ sg.natAbs = 1 := by
    by_cases w : 0 ≤ z
    · exact ⟨1, by omega, rfl⟩
    · exact ⟨-1, by omega, rfl⟩
  have hBr : ((B : Nat) : Rat) = (sg : Rat) * (z : Rat) := by
    have : ((B : Int) : Rat) = ((sg * z : Int) : Rat) := by rw [hs1]
    rw [Rat.intCast_mul] at this
    rw [← this, Rat.intCast_natCast]
  have hzr : (z : Rat) ≠ 0 := by
    intro w
    exact hz (by exact_mod_cast w)
  obtain ⟨t, t1, t2⟩ := hl.2 (n + s)
  have hμr : (μ : Rat) ≠ 0 := by
    intro w
    have : (μ : Nat) = 0 := by exact_mod_cast w
    have := hb.1
    omega
  -- m B (l_top / b_n) = sg t μ
  have hf : ((m * B : Nat) : Rat) * (l.co (n + s) / b.co n) = ((sg * t * (μ : Int) : Int) : Rat) := by
    rw [Rat.natCast_mul, hBr, Rat.intCast_mul, Rat.intCast_mul, t1, Rat.intCast_natCast, z1]
    grind
  have tb : (sg * t * (μ : Int)).natAbs ≤ 2 ^ (e + f) := by
    rw [Int.natAbs_mul, Int.natAbs_mul, hs2, Nat.one_mul, Nat.pow_add]
    exact Nat.mul_le_mul t2 (by simpa using hμ)
  refine ⟨hB0, hBf, ⟨Nat.mul_pos hl.1 hB0, fun k => ?_⟩, hw_mono (Nat.mul_pos hl.1 hB0) hf.symm tb⟩
  obtain ⟨a, a1, a2⟩ := hl.2 k
  obtain ⟨c, c1, c2⟩ := hb.2 (k - s)
  refine ⟨a * (B : Int) - sg * t * c, ?_, ?_⟩
  · rw [co_sub, co_mono_mul, Rat.intCast_sub, Rat.intCast_mul, Rat.intCast_mul, Rat.intCast_mul, a1, c1, t1, Rat.intCast_natCast, Rat.natCast_mul]
    have hf2 : (m : Rat) * (B : Rat) * (l.co (n + s) / b.co n) = sg * (m * l.co (n + s)) * μ := by
      have := hf
      rw [Rat.natCast_mul, Rat.intCast_mul, Rat.intCast_mul, t1, Rat.intCast_natCast] at this
      exact this
    grind
  · have h1 : (a * (B : Int)).natAbs ≤ 2 ^ (e + f) := by
      rw [Int.natAbs_mul, Nat.pow_add]
      exact Nat.mul_le_mul a2 (by simpa using hBf)
    have h2 : (sg * t * c).natAbs ≤ 2 ^ (e + f) := by
      rw [Int.natAbs_mul, Int.natAbs_mul, hs2, Nat.one_mul, Nat.pow_add]
      exact Nat.mul_le_mul t2 c2
    exact Nat.le_trans (natAbs_sub_le' _ _) (pow_add_le h1 h2)
end K65

namespace K65
/-! ### numbers that fit -/
def Sm (c : Rat) : Prop := c.num.natAbs ≤ 2 ^ 6500 ∧ c.den ≤ 2 ^ 6500
def SmL (p : L) : Prop := ∀ k, Sm (p.co k)
theorem num_den_le {c : Rat} {m : Nat} {n : Int} (hm : 0 < m) (h : (n : Rat) = m * c) : c.den ≤ m ∧ c.num.natAbs ≤ n.natAbs := by
  have hd : (c.den : Rat) ≠ 0 := by
    intro w
    have : (c.den : Nat) = 0 := by exact_mod_cast w
    exact c.den_nz this
  have e1 : (n : Rat) * (c.den : Rat) = m * (c.num : Rat) := by
    have : c * (c.den : Rat) = c.num := by
      have h2 := Rat.num_divInt_den c
      rw [Rat.divInt_eq_div] at h2
      have h3 : ((c.den : Int) : Rat) = (c.den : Rat) := Rat.intCast_natCast _
      rw [h3] at h2
      conv => lhs; lhs; rw [← h2]
      grind
    rw [h, ← this]
    grind
  have e2 : n * (c.den : Int) = (m : Int) * c.num := by
    have : ((n * (c.den : Int) : Int) : Rat) = (((m : Int) * c.num : Int) : Rat) := by
      rw [Rat.intCast_mul, Rat.intCast_mul, Rat.intCast_natCast, Rat.intCast_natCast]
      exact e1
    exact_mod_cast this
  have e3 : n.natAbs * c.den = m * c.num.natAbs := by
    have := congrArg Int.natAbs e2
    rw [Int.natAbs_mul, Int.natAbs_mul] at this
    simpa using this
  have cop : c.num.natAbs.Coprime c.den := c.reduced
  have dvd : c.den ∣ m := by
    have : c.den ∣ m * c.num.natAbs := ⟨n.natAbs, by rw [← e3, Nat.mul_comm]⟩
    exact Nat.Coprime.dvd_of_dvd_mul_right cop.symm this
  obtain ⟨t, ht⟩ := dvd
  have hdp : 0 < c.den := Nat.pos_of_ne_zero c.den_nz
  have tp : 0 < t := Nat.pos_of_ne_zero fun z => by
    rw [z, Nat.mul_zero] at ht
    omega
  refine ⟨Nat.le_of_dvd hm ⟨t, ht⟩, ?_⟩
  rw [ht] at e3
  have e4 : n.natAbs = t * c.num.natAbs := by
    have : c.den * n.natAbs = c.den * (t * c.num.natAbs) := by
      rw [Nat.mul_comm, e3, Nat.mul_assoc]
    exact Nat.eq_of_mul_eq_mul_left hdp this
  rw [e4]
  exact Nat.le_mul_of_pos_left _ tp
theorem sm_of {c : Rat} {m d e : Nat} {n : Int} (hm : 0 < m) (hd : m ≤ 2 ^ d) (h : (n : Rat) = m * c) (hn : n.natAbs ≤ 2 ^ e) (h1 : d ≤ 6500) (h2 : e ≤ 6500) : Sm c := by
  obtain ⟨a, b⟩ := num_den_le hm h
  exact ⟨Nat.le_trans b (Nat.le_trans hn (Nat.pow_le_pow_right (by decide) h2)), Nat.le_trans a (Nat.le_trans hd (Nat.pow_le_pow_right (by decide) h1))⟩
theorem Hw.sm {m d e : Nat} {p : L} (h : Hw m e p) (hd : m ≤ 2 ^ d) (h1 : d ≤ 6500) (h2 : e ≤ 6500) : SmL p := fun k => by
  obtain ⟨n, n1, n2⟩ := h.2 k
  exact sm_of h.1 hd n1 n2 h1 h2
theorem sm_zero : Sm 0 := ⟨by simp, by
  show 1 ≤ 2 ^ 6500
  exact Nat.one_le_two_pow⟩
/-- .. with some common multiple of at most 2 ^ d -/
def Hb (d e : Nat) (p : L) : Prop := ∃ m, m ≤ 2 ^ d ∧ Hw m e p
theorem Hb.mono {d e d' e' : Nat} {p : L} (h : Hb d e p) (hd : d ≤ d') (he : e ≤ e') : Hb d' e' p := by
  obtain ⟨m, h1, h2⟩ := h
  exact ⟨m, Nat.le_trans h1 (Nat.pow_le_pow_right (by decide) hd), h2.mono he⟩
theorem Hb.sm {d e : Nat} {p : L} (h : Hb d e p) (h1 : d ≤ 6500) (h2 : e ≤ 6500) : SmL p := by
  obtain ⟨m, a, b⟩ := h
  exact b.sm a h1 h2
theorem hb_zero {d e : Nat} : Hb d e 0 := ⟨1, Nat.one_le_two_pow, hw_zero (by decide)⟩
theorem hb_one {d e : Nat} : Hb d e 1 := ⟨1, Nat.one_le_two_pow, by decide, fun k => by
  rw [co_one]
  split
  · exact ⟨1, by grind, Nat.one_le_two_pow⟩
  · exact ⟨0, by grind, Nat.zero_le _⟩⟩
theorem Hb.prod {d e d' f w : Nat} {p q : L} (hp : Hb d e p) (hq : Hb d' f q) (hw : width p ≤ 2 ^ w) : Hb (d + d') (e + f + w) (p * q) := by
  obtain ⟨m, a, b⟩ := hp
  obtain ⟨m', a', b'⟩ := hq
  exact ⟨m * m', by rw [Nat.pow_add]; exact Nat.mul_le_mul a a', b.prod b' hw⟩
/-- two with unlike common multiples -/
theorem Hb.sub {d e d' f : Nat} {p q : L} (hp : Hb d e p) (hq : Hb d' f q) : Hb (d + d') (max (e + d') (f + d) + 1) (p - q) := by
  obtain ⟨m, a, b⟩ := hp
  obtain ⟨m', a', b'⟩ := hq
  have h1 := b.scale b'.1 a'
  have h2 := b'.scale b.1 a
  rw [Nat.mul_comm m' m] at h2
  exact ⟨m * m', by rw [Nat.pow_add]; exact Nat.mul_le_mul a a', (h1.mono (Nat.le_max_left _ _)).sub (h2.mono (Nat.le_max_right _ _))⟩
theorem Hb.add {d e d' f : Nat} {p q : L} (hp : Hb d e p) (hq : Hb d' f q) : Hb (d + d') (max (e + d') (f + d) + 1) (p + q) := by
  obtain ⟨m, a, b⟩ := hp
  obtain ⟨m', a', b'⟩ := hq
  have h1 := b.scale b'.1 a'
  have h2 := b'.scale b.1 a
  rw [Nat.mul_comm m' m] at h2
  exact ⟨m * m', by rw [Nat.pow_add]; exact Nat.mul_le_mul a a', (h1.mono (Nat.le_max_left _ _)).add (h2.mono (Nat.le_max_right _ _))⟩

/-! ### what a division asks of its numbers -/
def DvOk (b : L) (n s0 : Int) : Nat → L → Prop
  | 0, _ => True
  | m + 1, l => SmL l ∧ Sm (l.co (n + s0 + m) / b.co n) ∧ (∀ k, Sm ((l.co (n + s0 + m) / b.co n) * b.co k)) ∧ DvOk b n s0 m (l - mono (s0 + m) (l.co (n + s0 + m) / b.co n) * b)
theorem pow_mul_le {a b x y : Nat} (ha : a ≤ 2 ^ x) (hb : b ≤ 2 ^ y) : a * b ≤ 2 ^ (x + y) := by
  rw [Nat.pow_add]
  exact Nat.mul_le_mul ha hb
theorem dvl_hw {μ f : Nat} {b : L} {n s0 : Int} (hb : Hw μ f b) (hμ : μ ≤ 2 ^ f) (hn : b.co n ≠ 0) : ∃ B, 0 < B ∧ B ≤ 2 ^ f ∧ ∀ (m : Nat) (l : L) (lam e : Nat), Hw lam e l →
    Hw (lam * B ^ m) (e + m * (f + 2)) (dvl b n s0 m l).1 ∧ Hw (lam * B ^ m) (e + m * (f + 1)) (dvl b n s0 m l).2 ∧
    ∀ d, lam ≤ 2 ^ d → d + m * f + f ≤ 6500 → e + m * (f + 1) + f ≤ 6500 → DvOk b n s0 m l := by
  obtain ⟨z, z1, z2⟩ := hb.2 n
  have st : ∀ {lam e : Nat} {l : L} (s : Int), Hw lam e l → _ := fun {lam e l} s hl => hw_step (s := s) hl hb hμ hn z.natAbs ⟨z, z1, rfl⟩
  refine ⟨z.natAbs, (st 0 (hw_zero (m := 1) (e := 0) (by decide))).1, z2, fun m => ?_⟩
  induction m with
  | zero =>
    intro l lam e hl
    refine ⟨?_, ?_, fun _ _ _ _ => trivial⟩
    · show Hw (lam * 1) (e + 0 * (f + 2)) 0
      exact hw_zero (by have := hl.1; omega)
    · show Hw (lam * 1) (e + 0 * (f + 1)) l
      rw [Nat.mul_one, Nat.zero_mul, Nat.add_zero]
      exact hl
  | succ m ih =>
    intro l lam e hl
    obtain ⟨hB0, hBf, h1, h2⟩ := st (s0 + m) hl
    have ep : n + (s0 + (m : Int)) = n + s0 + m := by omega
    rw [ep] at h1 h2
    obtain ⟨i1, i2, i3⟩ := ih _ _ _ h1
    have em : lam * z.natAbs * z.natAbs ^ m = lam * z.natAbs ^ (m + 1) := by
      rw [Nat.pow_succ, Nat.mul_assoc, Nat.mul_comm z.natAbs]
    rw [em] at i1 i2
    have hBm : z.natAbs ^ m ≤ 2 ^ (f * m) := by
      rw [Nat.pow_mul]
      exact Nat.pow_le_pow_left hBf m
    have h2' : Hw (lam * z.natAbs ^ (m + 1)) (e + f + f * m) (mono (s0 + m) (l.co (n + s0 + m) / b.co n)) := by
      have := h2.scale (Nat.pow_pos (n := m) hB0) hBm
      rw [em] at this
      exact this
    have x1 : f * m = m * f := Nat.mul_comm _ _
    have x2 : m * (f + 2) = m * f + m * 2 := Nat.mul_add _ _ _
    have x3 : (m + 1) * (f + 2) = m * f + m * 2 + f + 2 := by rw [Nat.add_mul, x2]; omega
    have x4 : m * (f + 1) = m * f + m := by rw [Nat.mul_add, Nat.mul_one]
    have x5 : (m + 1) * (f + 1) = m * f + m + f + 1 := by rw [Nat.add_mul, x4]; omega
    have x6 : (m + 1) * f = m * f + f := by rw [Nat.add_mul]; omega
    refine ⟨?_, ?_, fun d hd q1 q2 => ?_⟩
    · show Hw _ _ ((dvl b n s0 m (l - mono (s0 + m) (l.co (n + s0 + m) / b.co n) * b)).1 + mono (s0 + m) (l.co (n + s0 + m) / b.co n))
      have a1 := i1.mono (e' := e + (m + 1) * (f + 2) - 1) (by omega)
      have a2 := h2'.mono (e' := e + (m + 1) * (f + 2) - 1) (by omega)
      exact (a1.add a2).mono (by omega)
    · exact i2.mono (by omega)
    · have hlamB : lam * z.natAbs ≤ 2 ^ (d + f) := pow_mul_le hd hBf
      obtain ⟨t, t1, t2⟩ := h2.2 (s0 + m)
      rw [co_mono, if_pos rfl] at t1
      refine ⟨hl.sm hd (by omega) (by omega), sm_of h2.1 hlamB t1 t2 (by omega) (by omega), fun k => ?_, i3 (d + f) hlamB (by omega) (by omega)⟩
      obtain ⟨c, c1, c2⟩ := hb.2 k
      have hprod : ((t * c : Int) : Rat) = ((lam * z.natAbs * μ : Nat) : Rat) * ((l.co (n + s0 + m) / b.co n) * b.co k) := by
        rw [Rat.intCast_mul, t1, c1, Rat.natCast_mul (lam * z.natAbs) μ]
        grind
      refine sm_of (d := d + f + f) (e := e + f + f) (Nat.mul_pos h2.1 hb.1) (pow_mul_le hlamB hμ) hprod ?_ (by omega) (by omega)
      rw [Int.natAbs_mul, Nat.pow_add]
      exact Nat.mul_le_mul t2 c2
/-- what row_divided asks -/
def DivOk (p q : L) : Prop := SmL p ∧ SmL q ∧ DvOk q ((rowOf q).1 + (rowOf q).2.length - 1) ((rowOf p).1 - (rowOf q).1) ((rowOf p).2.length + 1 - (rowOf q).2.length) p
theorem dv_hw {d e g f m : Nat} {p q : L} (hp : Hb d e p) (hq : Hb g f q) (hgf : g ≤ f) (hq0 : q ≠ 0) (hm : width p + 1 ≤ width q + m) :
    Hb (d + m * f) (e + m * (f + 2)) (dv p q).1 ∧ Hb (d + m * f) (e + m * (f + 1)) (dv p q).2 ∧ (d + m * f + f ≤ 6500 → e + m * (f + 1) + f ≤ 6500 → DivOk p q) := by
  obtain ⟨lam, l1, l2⟩ := hp
  obtain ⟨μ, u1, u2⟩ := hq
  have hμ : μ ≤ 2 ^ f := Nat.le_trans u1 (Nat.pow_le_pow_right (by decide) hgf)
  obtain ⟨a1, a2, a3⟩ := (rowOf_is q).ne hq0
  obtain ⟨B, b0, b1, b2⟩ := dvl_hw (s0 := (rowOf p).1 - (rowOf q).1) u2 hμ a3.1
  have wp : (rowOf p).2.length = width p := row_len (rowOf_is p)
  have wq : (rowOf q).2.length = width q := row_len (rowOf_is q)
  have hle : (rowOf p).2.length + 1 - (rowOf q).2.length ≤ m := by omega
  obtain ⟨c1, c2, c3⟩ := b2 ((rowOf p).2.length + 1 - (rowOf q).2.length) p lam e l2
  unfold dv DivOk
  generalize (rowOf p).2.length + 1 - (rowOf q).2.length = k at hle c1 c2 c3 ⊢
  have hBk : lam * B ^ k ≤ 2 ^ (d + m * f) := by
    refine pow_mul_le l1 ?_
    refine Nat.le_trans (Nat.pow_le_pow_left b1 k) ?_
    rw [← Nat.pow_mul]
    exact Nat.pow_le_pow_right (by decide) (by rw [Nat.mul_comm]; exact Nat.mul_le_mul_right _ hle)
  have k1 : k * (f + 2) ≤ m * (f + 2) := Nat.mul_le_mul_right _ hle
  have k2 : k * (f + 1) ≤ m * (f + 1) := Nat.mul_le_mul_right _ hle
  have k3 : k * f ≤ m * f := Nat.mul_le_mul_right _ hle
  refine ⟨?_, ?_, fun h1 h2 => ?_⟩
  · exact ⟨_, hBk, c1.mono (by omega)⟩
  · exact ⟨_, hBk, c2.mono (by omega)⟩
  · refine ⟨l2.sm l1 (by omega) (by omega), u2.sm u1 (by omega) (by omega), ?_⟩
    exact c3 d l1 (by omega) (by omega)
end K65

namespace K65
/-! ### windows and widths -/
def W (a : Int) (p : L) : Prop := In (-a) (a + 1) p
theorem W.mono {a b : Int} {p : L} (h : W a p) (hb : a ≤ b) : W b p := In.mono h (by omega) (by omega)
theorem w_zero {a : Int} : W a 0 := fun k hk => absurd (co_zero k) hk
theorem w_one {a : Int} (h : 0 ≤ a) : W a 1 := fun k hk => by
  rw [co_one] at hk
  by_cases e : k = 0
  · omega
  · rw [if_neg e] at hk
    exact absurd rfl hk
theorem W.mul {a b : Int} {p q : L} (hp : W a p) (hq : W b q) : W (a + b) (p * q) := fun k hk => by
  obtain ⟨i, j, e, hi, hj⟩ := co_mul_in hk
  have := hp i hi
  have := hq j hj
  omega
theorem W.add {a : Int} {p q : L} (hp : W a p) (hq : W a q) : W a (p + q) := fun k hk => by
  rw [co_add] at hk
  by_cases z : p.co k = 0
  · exact hq k fun y => hk (by rw [z, y]; grind)
  · exact hp k z
theorem W.sub {a : Int} {p q : L} (hp : W a p) (hq : W a q) : W a (p - q) := fun k hk => by
  rw [co_sub] at hk
  by_cases z : p.co k = 0
  · exact hq k fun y => hk (by rw [z, y]; grind)
  · exact hp k z
theorem W.neg {a : Int} {p : L} (hp : W a p) : W a (-p) := fun k hk => by
  rw [co_neg] at hk
  exact hp k fun y => hk (by rw [y]; grind)
/-- an exact quotient -/
theorem W.quot {a b : Int} {p q c : L} (hq0 : q ≠ 0) (hp : W a p) (hq : W b q) (h : c * q = p) : W (a + b) c := by
  by_cases e : c = 0
  · rw [e]
    exact w_zero
  · obtain ⟨n, tn⟩ := exists_top e
    obtain ⟨m, bm⟩ := exists_bot e
    obtain ⟨n', tn'⟩ := exists_top hq0
    obtain ⟨m', bm'⟩ := exists_bot hq0
    have h1 := hp _ (by rw [← h]; exact (tn.mul tn').1)
    have h2 := hp _ (by rw [← h]; exact (bm.mul bm').1)
    have h3 := hq _ tn'.1
    have h4 := hq _ bm'.1
    intro k hk
    have := tn.2 k hk
    have := bm.2 k hk
    omega
theorem width_in {a b : Int} {p : L} (h : In a b p) (hab : a ≤ b) : (width p : Int) ≤ b - a := by
  by_cases e : p = 0
  · rw [e, width_zero]
    omega
  · obtain ⟨n, tn⟩ := exists_top e
    obtain ⟨m, bm⟩ := exists_bot e
    rw [width_eq tn bm]
    have := h _ tn.1
    have := h _ bm.1
    have := bm.le_top tn
    omega
theorem width_mul {p q : L} (hp : p ≠ 0) (hq : q ≠ 0) : width (p * q) + 1 = width p + width q := by
  obtain ⟨n, tn⟩ := exists_top hp
  obtain ⟨m, bm⟩ := exists_bot hp
  obtain ⟨n', tn'⟩ := exists_top hq
  obtain ⟨m', bm'⟩ := exists_bot hq
  rw [width_eq tn bm, width_eq tn' bm', width_eq (tn.mul tn') (bm.mul bm')]
  have := bm.le_top tn
  have := bm'.le_top tn'
  omega
theorem width_pos {p : L} (hp : p ≠ 0) : 1 ≤ width p := by
  obtain ⟨n, tn⟩ := exists_top hp
  obtain ⟨m, bm⟩ := exists_bot hp
  rw [width_eq tn bm]
  omega
theorem width_zero_iff {p : L} (h : width p = 0) : p = 0 := Classical.byContradiction fun e => by
  have := width_pos e
  omega
theorem width_one : width 1 = 1 := by
  have h1 : Top (1 : L) 0 := by rw [one_eq]; exact top_mono (by decide)
  have h2 : Bot (1 : L) 0 := by rw [one_eq]; exact bot_mono (by decide)
  rw [width_eq h1 h2]
  rfl
theorem single_of {p : L} (h : width p = 1) : ∃ n c, c ≠ 0 ∧ p = mono n c := by
  have hp : p ≠ 0 := fun e => by
    rw [e, width_zero] at h
    omega
  obtain ⟨n, tn⟩ := exists_top hp
  obtain ⟨m, bm⟩ := exists_bot hp
  rw [width_eq tn bm] at h
  have := bm.le_top tn
  have e : n = m := by omega
  subst e
  exact ⟨n, p.co n, tn.1, mono_of tn bm⟩
/-- the quotient of dv stands at its places -/
theorem dvl_quot_in (b : L) (n s0 : Int) : ∀ (m : Nat) (l : L), In s0 (s0 + m) (dvl b n s0 m l).1
  | 0, l => fun k hk => absurd (co_zero k) hk
  | m + 1, l => fun k hk => by
    have ih := dvl_quot_in b n s0 m (l - mono (s0 + m) (l.co (n + s0 + m) / b.co n) * b)
    have hk : ((dvl b n s0 m (l - mono (s0 + m) (l.co (n + s0 + m) / b.co n) * b)).1 + mono (s0 + m) (l.co (n + s0 + m) / b.co n)).co k ≠ 0 := hk
    rw [co_add, co_mono] at hk
    by_cases z : (dvl b n s0 m (l - mono (s0 + m) (l.co (n + s0 + m) / b.co n) * b)).1.co k = 0
    · by_cases y : s0 + (m : Int) = k
      · omega
      · rw [z, if_neg y] at hk
        exact absurd (by grind) hk
    · have := ih k z
      omega
theorem dv_quot_width {p q : L} {m : Nat} (hm : width p + 1 ≤ width q + m) : width (dv p q).1 ≤ m := by
  have h := dvl_quot_in q ((rowOf q).1 + (rowOf q).2.length - 1) ((rowOf p).1 - (rowOf q).1) ((rowOf p).2.length + 1 - (rowOf q).2.length) p
  have := width_in h (by omega)
  have wp : (rowOf p).2.length = width p := row_len (rowOf_is p)
  have wq : (rowOf q).2.length = width q := row_len (rowOf_is q)
  have e : width (dv p q).1 = width (dvl q ((rowOf q).1 + (rowOf q).2.length - 1) ((rowOf p).1 - (rowOf q).1) ((rowOf p).2.length + 1 - (rowOf q).2.length) p).1 := rfl
  omega
theorem start_w {a : Int} {p : L} (h : W a p) (ha : 0 ≤ a) : -a ≤ (rowOf p).1 ∧ (rowOf p).1 ≤ a ∧ (width p : Int) ≤ 2 * a + 1 := by
  refine ⟨?_, ?_, ?_⟩
  · by_cases e : p = 0
    · rw [e, rowOf_zero]
      omega
    · obtain ⟨m, bm⟩ := exists_bot e
      rw [rowOf_bot bm]
      have := h _ bm.1
      omega
  · by_cases e : p = 0
    · rw [e, rowOf_zero]
      omega
    · obtain ⟨m, bm⟩ := exists_bot e
      rw [rowOf_bot bm]
      have := h _ bm.1
      omega
  · have := width_in h (by omega)
    omega
theorem dv_quot_w {a b : Int} {p q : L} (hp : W a p) (hq : W b q) (ha : 0 ≤ a) (hb : 0 ≤ b) (hq0 : q ≠ 0) : W (a + b) (dv p q).1 := by
  have h := dvl_quot_in q ((rowOf q).1 + (rowOf q).2.length - 1) ((rowOf p).1 - (rowOf q).1) ((rowOf p).2.length + 1 - (rowOf q).2.length) p
  have h1 := start_w hp ha
  have h2 := start_w hq hb
  have wp : (rowOf p).2.length = width p := row_len (rowOf_is p)
  have wq : (rowOf q).2.length = width q := row_len (rowOf_is q)
  obtain ⟨a1, a2, a3⟩ := (rowOf_is q).ne hq0
  by_cases e : p = 0
  · subst e
    rw [dv_zero hq0]
    exact w_zero
  · obtain ⟨b1, b2, b3⟩ := (rowOf_is p).ne e
    have t1 := hp _ b3.1
    have t2 := hq _ a3.1
    have t3 := hp _ b2.1
    have t4 := hq _ a2.1
    exact In.mono h (by omega) (by omega)
/-- an exact quotient by one number -/
theorem Hb.single {d e g f : Nat} {p q c : L} (hp : Hb d e p) (hq : Hb g f q) (hw : width q = 1) (h : c * q = p) : Hb (d + f) (e + g) c := by
  obtain ⟨n, γ, hγ, rfl⟩ := single_of hw
  obtain ⟨m, m1, m2⟩ := hp
  obtain ⟨μ, u1, u2⟩ := hq
  obtain ⟨z, z1, z2⟩ := u2.2 n
  rw [co_mono, if_pos rfl] at z1
  have hz : z ≠ 0 := fun y => by
    subst y
    have hμ : (μ : Rat) ≠ 0 := by
      intro w
      have : (μ : Nat) = 0 := by exact_mod_cast w
      have := u2.1
      omega
    have z1 : (0 : Rat) = μ * γ := z1
    rcases Rat.mul_eq_zero.mp z1.symm with w | w
    · exact hμ w
    · exact hγ w
  obtain ⟨sg, hs1, hs2⟩ : ∃ sg : Int, (z.natAbs : Int) = sg * z ∧ sg.natAbs = 1 := by
    by_cases w : 0 ≤ z
    · exact ⟨1, by omega, rfl⟩
    · exact ⟨-1, by omega, rfl⟩
  have hBr : ((z.natAbs : Nat) : Rat) = (sg : Rat) * (z : Rat) := by
    have : ((z.natAbs : Int) : Rat) = ((sg * z : Int) : Rat) := by rw [hs1]
    rw [Rat.intCast_mul] at this
    rw [← this, Rat.intCast_natCast]
  refine ⟨m * z.natAbs, pow_mul_le m1 z2, Nat.mul_pos m2.1 (by omega), fun k => ?_⟩
  obtain ⟨t, t1, t2⟩ := m2.2 (k + n)
  have hc : p.co (k + n) = γ * c.co k := by
    rw [← h, L.mul_comm, co_mono_mul]
    congr 2
    omega
  refine ⟨sg * t * (μ : Int), ?_, ?_⟩
  · rw [Rat.natCast_mul, hBr, Rat.intCast_mul, Rat.intCast_mul, t1, hc, Rat.intCast_natCast, z1]
    grind
  · rw [Int.natAbs_mul, Int.natAbs_mul, hs2, Nat.one_mul, Nat.pow_add]
    exact Nat.mul_le_mul t2 (by simpa using u1)

/-! ### what the products and differences ask -/
structure PrOk (p q : L) : Prop where
  wp : W 200 p
  wq : W 200 q
  ex : ∃ d e d' f w : Nat, Hb d e p ∧ Hb d' f q ∧ width p ≤ 2 ^ w ∧ d + d' ≤ 6500 ∧ e + f + w + 1 ≤ 6500
structure SbOk (p q : L) : Prop where
  wp : W 400 p
  wq : W 400 q
  sp : SmL p
  sq : SmL q
/-- division of rows: places too -/
structure DqOk (p q : L) : Prop where
  wp : W 200 p
  wq : W 200 q
  ne : q ≠ 0
  ok : DivOk p q
/-! ### the program's Euclid -/
structure StOk (f fA fB s sA sB : L) : Prop where
  div : DqOk f s
  p0 : PrOk (dv f s).1 s
  p1 : PrOk (dv f s).1 sA
  p2 : PrOk (dv f s).1 sB
  l0 : SbOk f ((dv f s).1 * s)
  l1 : SbOk fA ((dv f s).1 * sA)
  l2 : SbOk fB ((dv f s).1 * sB)
inductive Eu : L → L → L → L → L → L → L → L → L → Prop
  | stop {f fA fB sA sB : L} : Eu f fA fB 0 sA sB fA fB f
  | step {f fA fB s sA sB A B g : L} : s ≠ 0 → StOk f fA fB s sA sB → Eu s sA sB (f - (dv f s).1 * s) (fA - (dv f s).1 * sA) (fB - (dv f s).1 * sB) A B g → Eu f fA fB s sA sB A B g
/-- what all rows of the two runs are -/
structure U0 (p : L) : Prop where
  h : Hb 1300 1300 p
  w : W 100 p
theorem U0.sm {p : L} (h : U0 p) : SmL p := h.h.sm (by omega) (by omega)
theorem pr_of {q s : L} (hq : U0 q) (hw : width q ≤ 8) (hs : U0 s) : PrOk q s := ⟨hq.w.mono (by omega), hs.w.mono (by omega), 1300, 1300, 1300, 1300, 3, hq.h, hs.h, hw, by omega, by omega⟩
theorem sb_of {f q s : L} (hf : U0 f) (hq : U0 q) (hw : width q ≤ 8) (hs : U0 s) : SbOk f (q * s) :=
  ⟨hf.w.mono (by omega), (hq.w.mul hs.w).mono (by omega), hf.sm, (hq.h.prod hs.h (w := 3) hw).sm (by omega) (by omega)⟩
theorem st_of {f fA fB s sA sB : L} (hf : U0 f) (hfA : U0 fA) (hfB : U0 fB) (hs : U0 s) (hsA : U0 sA) (hsB : U0 sB) (hq : U0 (dv f s).1) (hw : width (dv f s).1 ≤ 8) (hs0 : s ≠ 0) (hd : DivOk f s) : StOk f fA fB s sA sB :=
  ⟨⟨hf.w.mono (by omega), hs.w.mono (by omega), hs0, hd⟩, pr_of hq hw hs, pr_of hq hw hsA, pr_of hq hw hsB, sb_of hf hq hw hs, sb_of hfA hq hw hsA, sb_of hfB hq hw hsB⟩
theorem u0_zero : U0 0 := ⟨hb_zero, w_zero⟩
theorem u0_one : U0 1 := ⟨hb_one, w_one (by omega)⟩
theorem dv_sub (p q : L) : p - (dv p q).1 * q = (dv p q).2 := by
  have := dv_eq p q
  grind
theorem dv_one (u : L) : dv u 1 = (u, 0) := dv_uniq one_ne (by grind) (fun k hk => absurd (co_zero k) hk)
theorem width_lt_rest {p q : L} (hq : q ≠ 0) : width (dv p q).2 < width q := narrow_lt (dv_narrow hq) hq
end K65

/-! K65D: what an expression or a body is worth, in any slots of which a list of descriptions is true -/
namespace K65
open PySem PySem.Spec PyProof.Rows L2

/-- a description of a value, that stays when the heap grows -/
structure DP where
  is : V → Hp → Prop
  mono : ∀ {v : V} {H H' : Hp}, Same H H' → is v H → is v H'
theorem same_new {H : Hp} {p : Addr} {o : HO} (h : H p = none) : Same H (upd H p o) := fun b x e => by
  rw [upd_ne (ne_of_none e h)]
  exact e
theorem same_t {K : PySem.W.Frag} {H H' : Hp} {a : Addr} {xs : List V} (e : Same H H') (h : SqT K H a xs) : SqT K H' a xs := by
  rcases h with (h | ⟨o, h⟩) | h
  · exact .inl (.inl (e _ _ h))
  · exact .inl (.inr ⟨o, e _ _ h⟩)
  · exact .inr h
mutual
theorem dp_mono {K : PySem.W.Frag} {H H' : Hp} (e : Same H H') : ∀ (d : PyData) (v : V), Dp K H v d → Dp K H' v d
  | _, _, .non => .non
  | _, _, .bl b => .bl b
  | _, _, .int i => .int i
  | _, _, .str x => .str x
  | _, _, .lst (ds := ds) h1 h2 => .lst (e.seq h1) (dpAll_mono e ds _ h2)
  | _, _, .tup (ds := ds) h1 h2 => .tup (same_t e h1) (dpAll_mono e ds _ h2)
theorem dpAll_mono {K : PySem.W.Frag} {H H' : Hp} (e : Same H H') : ∀ (ds : List PyData) (vs : List V), DpAll K H vs ds → DpAll K H' vs ds
  | _, _, .nil => .nil
  | d :: ds, _, .cons h1 h2 => .cons (dp_mono e d _ h1) (dpAll_mono e ds _ h2)
end
/-- one value -/
def dV (v : V) : DP := ⟨fun x _ => x = v, fun _ h => h⟩
/-- data -/
def dD (K : PySem.W.Frag) (x : PyData) : DP := ⟨fun v H => Dp K H v x, fun e h => dp_mono e _ _ h⟩
inductive AllIs : List DP → List V → Hp → Prop
  | nil {H : Hp} : AllIs [] [] H
  | cons {d : DP} {dl : List DP} {v : V} {vs : List V} {H : Hp} : d.is v H → AllIs dl vs H → AllIs (d :: dl) (v :: vs) H
theorem AllIs.mono {dl : List DP} {vs : List V} {H H' : Hp} (e : Same H H') (h : AllIs dl vs H) : AllIs dl vs H' := by
  induction h with
  | nil => exact .nil
  | cons a _ ih => exact .cons (DP.mono _ e a) (ih e)
theorem AllIs.length {dl : List DP} {vs : List V} {H : Hp} (h : AllIs dl vs H) : vs.length = dl.length := by
  induction h with
  | nil => rfl
  | cons a _ ih => simp [ih]
theorem AllIs.get {dl : List DP} {vs : List V} {H : Hp} (h : AllIs dl vs H) : ∀ {i : Nat} {d : DP}, dl[i]? = some d → ∃ v, vs[i]? = some v ∧ d.is v H := by
  induction h with
  | nil => intro i d e; simp at e
  | cons a _ ih =>
    intro i d e
    cases i with
    | zero =>
      have : _ = d := Option.some.inj e
      subst this
      exact ⟨_, rfl, a⟩
    | succ i =>
      obtain ⟨v, h1, h2⟩ := ih (i := i) (d := d) (by simpa using e)
      exact ⟨v, by simpa using h1, h2⟩
theorem AllIs.snoc {dl : List DP} {vs : List V} {H : Hp} {d : DP} {v : V} (h : AllIs dl vs H) (hd : d.is v H) : AllIs (dl ++ [d]) (vs ++ [v]) H := by
  induction h with
  | nil => exact .cons hd .nil
  | cons a _ ih => exact .cons a (ih hd)
/-- a list, a tuple of described things -/
def dLst (K : PySem.W.Frag) (dl : List DP) : DP := ⟨fun v H => ∃ a vs, v = .ref a ∧ SqL K H a vs ∧ AllIs dl vs H, fun e h => by
  obtain ⟨a, vs, h1, h2, h3⟩ := h
  exact ⟨a, vs, h1, e.seq h2, h3.mono e⟩⟩
def dTup (K : PySem.W.Frag) (dl : List DP) : DP := ⟨fun v H => ∃ a vs, v = .ref a ∧ SqT K H a vs ∧ AllIs dl vs H, fun e h => by
  obtain ⟨a, vs, h1, h2, h3⟩ := h
  exact ⟨a, vs, h1, same_t e h2, h3.mono e⟩⟩
/-- one of some things -/
def dEx {α : Type} (S : α → Prop) (D : α → DP) : DP := ⟨fun v H => ∃ x, S x ∧ (D x).is v H, fun e h => by
  obtain ⟨x, h1, h2⟩ := h
  exact ⟨x, h1, (D x).mono e h2⟩⟩
theorem dpAll_of {K : PySem.W.Frag} {H : Hp} : ∀ {xs : List PyData} {vs : List V}, AllIs (xs.map (dD K)) vs H → DpAll K H vs xs
  | [], _, h => by
    cases h
    exact .nil
  | x :: xs, _, h => by
    cases h with
    | cons a b => exact .cons a (dpAll_of b)
theorem allIs_of {K : PySem.W.Frag} {H : Hp} : ∀ {xs : List PyData} {vs : List V}, DpAll K H vs xs → AllIs (xs.map (dD K)) vs H
  | _, _, .nil => .nil
  | _, _, .cons a b => .cons a (allIs_of b)
def DP.imp (d d' : DP) : Prop := ∀ v H, d.is v H → d'.is v H
theorem imp_lst {K : PySem.W.Frag} {xs : List PyData} : DP.imp (dLst K (xs.map (dD K))) (dD K (.list xs)) := fun v H h => by
  obtain ⟨a, vs, rfl, h2, h3⟩ := h
  exact Dp.lst h2 (dpAll_of h3)
theorem imp_tup {K : PySem.W.Frag} {xs : List PyData} : DP.imp (dTup K (xs.map (dD K))) (dD K (.tuple xs)) := fun v H h => by
  obtain ⟨a, vs, rfl, h2, h3⟩ := h
  exact Dp.tup h2 (dpAll_of h3)
theorem imp_lst' {K : PySem.W.Frag} {xs : List PyData} : DP.imp (dD K (.list xs)) (dLst K (xs.map (dD K))) := fun v H h => by
  cases h with
  | lst h1 h2 => exact ⟨_, _, rfl, h1, allIs_of h2⟩
theorem imp_tup' {K : PySem.W.Frag} {xs : List PyData} : DP.imp (dD K (.tuple xs)) (dTup K (xs.map (dD K))) := fun v H h => by
  cases h with
  | tup h1 h2 => exact ⟨_, _, rfl, h1, allIs_of h2⟩
theorem imp_int {K : PySem.W.Frag} {i : Int} : DP.imp (dD K (.int i)) (dV (.int i)) := fun v H h => by
  cases h
  rfl
theorem imp_int' {K : PySem.W.Frag} {i : Int} : DP.imp (dV (.int i)) (dD K (.int i)) := fun v H h => by
  cases h
  exact .int i
theorem imp_refl {d : DP} : DP.imp d d := fun _ _ h => h

/-! ### slots -/
structure Sl (σ : L2.St) (ds : List (Option DP)) (H : Hp) : Prop where
  len : σ.length = ds.length
  at' : ∀ (i : Nat) (d : DP), ds[i]? = some (some d) → ∃ v, σ[i]? = some (some v) ∧ d.is v H
theorem Sl.mono {σ : L2.St} {ds : List (Option DP)} {H H' : Hp} (h : Sl σ ds H) (e : Same H H') : Sl σ ds H' :=
  ⟨h.len, fun i d hd => let ⟨v, h1, h2⟩ := h.at' i d hd; ⟨v, h1, d.mono e h2⟩⟩
theorem Sl.set {σ : L2.St} {ds : List (Option DP)} {H : Hp} (h : Sl σ ds H) (i : Nat) {v : V} {d : DP} (hv : d.is v H) : Sl (σ.set i (some v)) (ds.set i (some d)) H := by
  refine ⟨by rw [List.length_set, List.length_set, h.len], fun j d' hd => ?_⟩
  by_cases e : i = j
  · subst e
    rw [List.getElem?_set] at hd
    split at hd
    · split at hd
      · rename_i z1 z2
        have e1 : d = d' := Option.some.inj (Option.some.inj hd)
        subst e1
        refine ⟨v, ?_, hv⟩
        rw [List.getElem?_set, if_pos rfl, if_pos (by rw [h.len]; exact z2)]
      · cases hd
    · rename_i z
      exact absurd rfl z
  · rw [List.getElem?_set, if_neg e] at hd
    obtain ⟨w, h1, h2⟩ := h.at' j d' hd
    exact ⟨w, by rw [List.getElem?_set, if_neg e]; exact h1, h2⟩
theorem Sl.imp {σ : L2.St} {ds ds' : List (Option DP)} {H : Hp} (h : Sl σ ds H) (hl : ds'.length = ds.length) (hi : ∀ (i : Nat) (d : DP), ds'[i]? = some (some d) → ∃ d0, ds[i]? = some (some d0) ∧ DP.imp d0 d) : Sl σ ds' H :=
  ⟨by rw [h.len, hl], fun i d hd => by
    obtain ⟨d0, e, q⟩ := hi i d hd
    obtain ⟨v, h1, h2⟩ := h.at' i d0 e
    exact ⟨v, h1, q v H h2⟩⟩
/-- the descriptions of the comprehension's own slots forgotten -/
def wipeD (ds : List (Option DP)) : List Nat → List (Option DP)
  | [] => ds
  | v :: vs => (wipeD ds vs).set v none
theorem wipeD_length (ds : List (Option DP)) : ∀ vs : List Nat, (wipeD ds vs).length = ds.length
  | [] => rfl
  | v :: vs => by unfold wipeD; rw [List.length_set, wipeD_length ds vs]
theorem Sl.wipe {σ : L2.St} {ds : List (Option DP)} {H : Hp} (h : Sl σ ds H) : ∀ vs : List Nat, Sl (wipe σ vs) (wipeD ds vs) H
  | [] => h
  | v :: vs => by
    have ih := Sl.wipe h vs
    refine ⟨?_, fun j d hd => ?_⟩
    · rw [L2.wipe_length, wipeD_length, h.len]
    · have hd : ((wipeD ds vs).set v none)[j]? = some (some d) := hd
      rw [List.getElem?_set] at hd
      by_cases e : v = j
      · rw [if_pos e] at hd
        split at hd
        · cases hd
        · cases hd
      · rw [if_neg e] at hd
        obtain ⟨w, h1, h2⟩ := ih.at' j d hd
        refine ⟨w, ?_, h2⟩
        show ((L2.wipe σ vs).set v none)[j]? = _
        rw [List.getElem?_set, if_neg e]
        exact h1
theorem wipe_idem_set {σ : L2.St} {i : Nat} {v : V} {vs : List Nat} (hi : i ∈ vs) : wipe ((wipe σ vs).set i (some v)) vs = wipe σ vs := by
  apply List.ext_getElem?
  intro j
  have key : ∀ (τ : L2.St) (us : List Nat) (k : Nat), (wipe τ us)[k]? = if k ∈ us then (if k < τ.length then some none else none) else τ[k]? := by
    intro τ us
    induction us with
    | nil => intro k; simp [L2.wipe]
    | cons u us ih =>
      intro k
      show ((L2.wipe τ us).set u none)[k]? = _
      rw [List.getElem?_set]
      by_cases e : u = k
      · subst e
        rw [if_pos rfl, L2.wipe_length, if_pos (List.mem_cons_self)]
      · rw [if_neg e, ih]
        by_cases m : k ∈ us
        · rw [if_pos m, if_pos (List.mem_cons_of_mem _ m)]
        · rw [if_neg m, if_neg (by simp [m]; exact fun z => e z.symm)]
  rw [key, key]
  by_cases m : j ∈ vs
  · rw [if_pos m, if_pos m, List.length_set, L2.wipe_length]
  · rw [if_neg m, if_neg m]
    rw [List.getElem?_set, if_neg (fun (z : i = j) => m (by rw [← z]; exact hi)), key, if_neg m]

/-! ### what evaluates to what -/
def EvD (te : TE) (ds : List (Option DP)) (d : DP) : Prop := ∀ σ H, Sl σ ds H → ∀ Q : VK, (∀ v H', Same H H' → d.is v H' → Q v H') → te σ H Q
def EvB (tt : TT) (ds : List (Option DP)) (b : Bool) : Prop := ∀ σ H, Sl σ ds H → ∀ Q : Bool → Hp → Prop, (∀ H', Same H H' → Q b H') → tt σ H Q
def EvA (ta : TA) (ds : List (Option DP)) (dl : List DP) : Prop := ∀ σ H, Sl σ ds H → ∀ Q : List V → Hp → Prop, (∀ vs H', Same H H' → AllIs dl vs H' → Q vs H') → ta σ H Q
def CallP (sp : Sp) (dl : List DP) (d : DP) : Prop := ∀ vs H, AllIs dl vs H → ∀ (Q : VK) (E : XK), (∀ v H', Same H H' → d.is v H' → Q v H') → sp vs H Q E
/-- a built-in's question -/
def RcP (r : List V → Hp → VK → Prop) (dl : List DP) (d : DP) : Prop := ∀ vs H, AllIs dl vs H → ∀ (Q : VK), (∀ v H', Same H H' → d.is v H' → Q v H') → r vs H Q
/-- an operator's question -/
def OpP (r : R2) (a b d : DP) : Prop := ∀ x y H, a.is x H → b.is y H → ∀ (Q : VK), (∀ v H', Same H H' → d.is v H' → Q v H') → r x y H Q
section
variable {K : PySem.W.Frag} {ds : List (Option DP)} {ta tb te : TE} {tt tu : TT} {a b d d' : DP} {dl : List DP} {r : R2} {b1 b2 : Bool}
theorem EvD.imp (h : EvD te ds d) (i : DP.imp d d') : EvD te ds d' := fun σ H s Q q => h σ H s Q fun v H' e hd => q v H' e (i v H' hd)
theorem ed_var {i : Nat} (h : ds[i]? = some (some d)) : EvD (tVar i) ds d := fun σ H s Q q => by
  obtain ⟨v, h1, h2⟩ := s.at' i d h
  exact ⟨v, h1, q v H (Same.refl H) h2⟩
theorem ed_c {v : V} (h : ∀ H, d.is v H) : EvD (tC v) ds d := fun σ H s Q q => q v H (Same.refl H) (h H)
theorem ed_v {v : V} : EvD (tC v) ds (dV v) := ed_c fun _ => rfl
theorem ea_nil : EvA tNil ds [] := fun σ H s Q q => q [] H (Same.refl H) .nil
theorem ea_cons {tr : TA} (h : EvD te ds d) (hr : EvA tr ds dl) : EvA (tCons te tr) ds (d :: dl) := fun σ H s Q q =>
  h σ H s _ fun v H1 e1 hv => hr σ H1 (s.mono e1) _ fun vs H2 e2 hvs => q (v :: vs) H2 (e1.trans e2) (.cons (d.mono e2 hv) hvs)
theorem ed_tupP {ta : TA} (h : EvA ta ds dl) (hl : dl.length ≤ 1000) : EvD (tTup ta) ds (dTup K dl) := fun σ H s Q q =>
  h σ H s _ fun vs H1 e1 hvs => ⟨Nat.le_of_lt (small1000 (by rw [hvs.length]; exact hl)), fun p hp => q (.ref p) _ (e1.trans (same_new hp)) ⟨p, vs, rfl, SqT.of upd_same, hvs.mono (same_new hp)⟩⟩
theorem ed_lstP {ta : TA} (h : EvA ta ds dl) (hl : dl.length ≤ 1000) : EvD (tLst ta) ds (dLst K dl) := fun σ H s Q q =>
  h σ H s _ fun vs H1 e1 hvs => ⟨Nat.le_of_lt (small1000 (by rw [hvs.length]; exact hl)), fun p hp => q (.ref p) _ (e1.trans (same_new hp)) ⟨p, vs, rfl, SqL.of upd_same, hvs.mono (same_new hp)⟩⟩
theorem ed_tup {ta : TA} {xs : List PyData} (h : EvA ta ds (xs.map (dD K))) (hl : xs.length ≤ 1000) : EvD (tTup ta) ds (dD K (.tuple xs)) := (ed_tupP h (by rw [List.length_map]; exact hl)).imp imp_tup
theorem ed_call {sp : Sp} {E : XK} {ta : TA} (hs : CallP sp dl d) (h : EvA ta ds dl) : EvD (tCall sp [] E ta) ds d := fun σ H s Q q =>
  h σ H s _ fun vs H1 e1 hvs => by
    show sp (vs ++ []) H1 Q E
    rw [List.append_nil]
    exact hs vs H1 hvs Q E fun v H2 e2 hv => q v H2 (e1.trans e2) hv
theorem ed_cb {r : List V → Hp → VK → Prop} {ta : TA} (hr : RcP r dl d) (h : EvA ta ds dl) : EvD (tCB r ta) ds d := fun σ H s Q q =>
  h σ H s _ fun vs H1 e1 hvs => hr vs H1 hvs Q fun v H2 e2 hv => q v H2 (e1.trans e2) hv
theorem ed_op (hr : OpP r a b d) (ha : EvD ta ds a) (hb : EvD tb ds b) : EvD (tOp r ta tb) ds d := fun σ H s Q q =>
  ha σ H s _ fun x H1 e1 hx => hb σ H1 (s.mono e1) _ fun y H2 e2 hy => hr x y H2 (a.mono e2 hx) hy Q fun v H3 e3 hv => q v H3 ((e1.trans e2).trans e3) hv
theorem op_I0 {g : Int → Int → V} {i j : Int} : OpP (rI0 g) (dV (.int i)) (dV (.int j)) (dV (g i j)) := fun x y H hx hy Q q => ⟨i, j, hx, hy, q _ H (Same.refl H) rfl⟩
theorem op_I {C : Int → Int → Prop} {g : Int → Int → V} {i j : Int} (hc : C i j) : OpP (rI C g) (dV (.int i)) (dV (.int j)) (dV (g i j)) := fun x y H hx hy Q q => ⟨i, j, hx, hy, hc, q _ H (Same.refl H) rfl⟩
theorem op_ixT {i : Int} {xs : List PyData} {x : PyData} (h : atI xs i = some x) : OpP (rIxT K) (dD K (.tuple xs)) (dV (.int i)) (dD K x) := fun u w H hx hy Q q => by
  cases hx with
  | @tup p vs _ h1 h2 =>
    have hg := allIs_of h2
    have hl : vs.length = xs.length := by rw [hg.length, List.length_map]
    unfold atI at h
    cases e : ixN xs.length i with
    | none => rw [e] at h; cases h
    | some j =>
      rw [e] at h
      have h : xs[j]? = some x := h
      obtain ⟨v, e1, e2⟩ := hg.get (i := j) (d := dD K x) (by rw [List.getElem?_map, h]; rfl)
      refine ⟨p, vs, i, v, rfl, hy, h1, ?_, q v H (Same.refl H) e2⟩
      unfold atI
      rw [hl, e]
      exact e1
theorem op_ixTP {i : Int} (h : atI dl i = some d) : OpP (rIxT K) (dTup K dl) (dV (.int i)) d := fun u w H hx hy Q q => by
  obtain ⟨p, vs, rfl, h1, hg⟩ := hx
  have hl : vs.length = dl.length := hg.length
  unfold atI at h
  cases e : ixN dl.length i with
  | none => rw [e] at h; cases h
  | some j =>
    rw [e] at h
    have h : dl[j]? = some d := h
    obtain ⟨v, e1, e2⟩ := hg.get (i := j) h
    refine ⟨p, vs, i, v, rfl, hy, h1, ?_, q v H (Same.refl H) e2⟩
    unfold atI
    rw [hl, e]
    exact e1
theorem op_ixLP {i : Int} (h : atI dl i = some d) : OpP (rIxL K) (dLst K dl) (dV (.int i)) d := fun u w H hx hy Q q => by
  obtain ⟨p, vs, rfl, h1, hg⟩ := hx
  have hl : vs.length = dl.length := hg.length
  unfold atI at h
  cases e : ixN dl.length i with
  | none => rw [e] at h; cases h
  | some j =>
    rw [e] at h
    have h : dl[j]? = some d := h
    obtain ⟨v, e1, e2⟩ := hg.get (i := j) h
    refine ⟨p, vs, i, v, rfl, hy, h1, ?_, q v H (Same.refl H) e2⟩
    unfold atI
    rw [hl, e]
    exact e1
theorem op_eqDD {x y : PyData} (hx : SeqAt.shaped x = true) (hy : SeqAt.shaped y = true) : OpP (rEqD K) (dD K x) (dD K y) (dV (.bl (PyData.eqv x y))) := fun u w H h1 h2 Q q =>
  ⟨x, y, h1, h2, hx, hy, q _ H (Same.refl H) rfl⟩
theorem op_neDD {x y : PyData} (hx : SeqAt.shaped x = true) (hy : SeqAt.shaped y = true) : OpP (rNeD K) (dD K x) (dD K y) (dV (.bl (!PyData.eqv x y))) := fun u w H h1 h2 Q q =>
  ⟨x, y, h1, h2, hx, hy, q _ H (Same.refl H) rfl⟩
theorem op_eqV {x y : V} (h : scal x y = true) : OpP rEq (dV x) (dV y) (dV (.bl (decide (x = y)))) := fun u w H h1 h2 Q q => by
  cases h1
  cases h2
  exact ⟨h, q _ H (Same.refl H) rfl⟩
theorem op_neV {x y : V} (h : scal x y = true) : OpP rNe (dV x) (dV y) (dV (.bl (!decide (x = y)))) := fun u w H h1 h2 Q q => by
  cases h1
  cases h2
  exact ⟨h, q _ H (Same.refl H) rfl⟩
theorem eb_test {b : Bool} (h : EvD te ds (dV (.bl b))) : EvB (tTest te) ds b := fun σ H s Q q => h σ H s _ fun v H1 e1 hv => ⟨b, hv, q H1 e1⟩
theorem eb_B {b : Bool} (h : EvD te ds (dV (.bl b))) : EvB (tB te) ds b := fun σ H s Q q => h σ H s _ fun v H1 e1 hv => ⟨b, hv, q H1 e1⟩
theorem EvB.to {b b' : Bool} (h : EvB tt ds b) (e : b = b') : EvB tt ds b' := e ▸ h
theorem EvD.to {x y : V} (h : EvD te ds (dV x)) (e : x = y) : EvD te ds (dV y) := e ▸ h
theorem eb_not (h : EvB tt ds b1) : EvB (tNot tt) ds (!b1) := fun σ H s Q q => h σ H s _ fun H1 e1 => q H1 e1
theorem eb_and (h1 : EvB tt ds b1) (h2 : b1 = true → EvB tu ds b2) : EvB (tAnd tt tu) ds (b1 && b2) := fun σ H s Q q => h1 σ H s _ fun H1 e1 => by
  cases b1 with
  | true =>
    show tu σ H1 Q
    exact h2 rfl σ H1 (s.mono e1) Q fun H2 e2 => q H2 (e1.trans e2)
  | false => exact q H1 e1
theorem eb_or (h1 : EvB tt ds b1) (h2 : b1 = false → EvB tu ds b2) : EvB (tOr tt tu) ds (b1 || b2) := fun σ H s Q q => h1 σ H s _ fun H1 e1 => by
  cases b1 with
  | false =>
    show tu σ H1 Q
    exact h2 rfl σ H1 (s.mono e1) Q fun H2 e2 => q H2 (e1.trans e2)
  | true => exact q H1 e1
theorem ed_andV (h1 : EvD ta ds (dV (.bl b1))) (h2 : b1 = true → EvD tb ds (dV (.bl b2))) : EvD (tAndV ta tb) ds (dV (.bl (b1 && b2))) := fun σ H s Q q => h1 σ H s _ fun v H1 e1 hv => ⟨b1, hv, by
  cases b1 with
  | true =>
    show tb σ H1 Q
    exact h2 rfl σ H1 (s.mono e1) Q fun w H2 e2 hw => q w H2 (e1.trans e2) hw
  | false =>
    show Q (.bl false) H1
    exact q _ H1 e1 rfl⟩
theorem ed_orV (h1 : EvD ta ds (dV (.bl b1))) (h2 : b1 = false → EvD tb ds (dV (.bl b2))) : EvD (tOrV ta tb) ds (dV (.bl (b1 || b2))) := fun σ H s Q q => h1 σ H s _ fun v H1 e1 hv => ⟨b1, hv, by
  cases b1 with
  | false =>
    show tb σ H1 Q
    exact h2 rfl σ H1 (s.mono e1) Q fun w H2 e2 hw => q w H2 (e1.trans e2) hw
  | true =>
    show Q (.bl true) H1
    exact q _ H1 e1 rfl⟩
theorem ed_notV (h1 : EvD ta ds (dV (.bl b1))) : EvD (tNotV ta) ds (dV (.bl (!b1))) := fun σ H s Q q => h1 σ H s _ fun v H1 e1 hv => ⟨b1, hv, q _ H1 e1 rfl⟩
theorem ed_if (h : EvB tt ds b1) (h1 : b1 = true → EvD ta ds d) (h2 : b1 = false → EvD tb ds d) : EvD (tIf tt ta tb) ds d := fun σ H s Q q => h σ H s _ fun H1 e1 => by
  cases b1 with
  | true =>
    show ta σ H1 Q
    exact h1 rfl σ H1 (s.mono e1) Q fun w H2 e2 hw => q w H2 (e1.trans e2) hw
  | false =>
    show tb σ H1 Q
    exact h2 rfl σ H1 (s.mono e1) Q fun w H2 e2 hw => q w H2 (e1.trans e2) hw
theorem ed_isN (h : EvD ta ds (dV a0)) : EvD (tIsN ta) ds (dV (.bl (decide (a0 = .non)))) := fun σ H s Q q => h σ H s _ fun v H1 e1 hv => by
  cases hv
  exact q _ H1 e1 rfl
end

/-! ### bodies -/
def BdD (ts : TS) (ds : List (Option DP)) (d : DP) : Prop := ∀ (D : Ends) (σ : L2.St) (H : Hp), Sl σ ds H → (∀ v H', Same H H' → d.is v H' → D.rt v H') → ts D σ H
section
variable {K : PySem.W.Frag} {ds : List (Option DP)} {te : TE} {tt : TT} {t u : TS} {d d1 : DP} {dl : List DP} {b1 : Bool}
theorem b_ret (h : EvD te ds d) : BdD (tRet te) ds d := fun D σ H s q => h σ H s _ fun v H1 e1 hv => q v H1 e1 hv
theorem b_asg {i : Nat} (h : EvD te ds d1) (k : BdD u (ds.set i (some d1)) d) : BdD (tSeq (tAsg te (gName i)) u) ds d := fun D σ H s q =>
  h σ H s _ fun v H1 e1 hv => k D (σ.set i (some v)) H1 ((s.mono e1).set i hv) fun w H2 e2 hw => q w H2 (e1.trans e2) hw
/-- if c: return .. ; the rest -/
theorem b_if (h : EvB tt ds b1) (h1 : b1 = true → BdD t ds d) (h2 : b1 = false → BdD u ds d) : BdD (tSeq (tIfS tt t tNext) u) ds d := fun D σ H s q => h σ H s _ fun H1 e1 => by
  cases b1 with
  | true =>
    show t { D with nx := u D } σ H1
    exact h1 rfl { D with nx := u D } σ H1 (s.mono e1) fun w H2 e2 hw => q w H2 (e1.trans e2) hw
  | false =>
    show u D σ H1
    exact h2 rfl D σ H1 (s.mono e1) fun w H2 e2 hw => q w H2 (e1.trans e2) hw
theorem b_par {i j : Nat} {ta : TA} {d2 : DP} (h : EvA ta ds [d1, d2]) (k : BdD u ((ds.set i (some d1)).set j (some d2)) d) : BdD (tSeq (tPar i j ta) u) ds d := fun D σ H s q =>
  h σ H s _ fun vs H1 e1 hv => by
    cases hv with
    | @cons _ _ v _ _ h1 hr =>
      cases hr with
      | @cons _ _ w _ _ h2 hr2 =>
        cases hr2
        exact ⟨v, w, rfl, k D _ H1 (((s.mono e1).set i h1).set j h2) fun w H2 e2 hw => q w H2 (e1.trans e2) hw⟩
/-- a, b = e, e a tuple -/
theorem b_tup2 {i j : Nat} {d2 : DP} (h : EvD te ds (dTup K [d1, d2])) (k : BdD u ((ds.set i (some d1)).set j (some d2)) d) : BdD (tSeq (tAsg te (gTup K 2 (gCons (gName i) (gCons (gName j) gNil)))) u) ds d := fun D σ H s q =>
  h σ H s _ fun v H1 e1 hv => by
    obtain ⟨a, vs, rfl, hs, ha⟩ := hv
    cases ha with
    | @cons _ _ v _ _ h1 hr =>
      cases hr with
      | @cons _ _ w _ _ h2 hr2 =>
        cases hr2
        exact ⟨a, [v, w], rfl, hs, rfl, v, [w], rfl, w, [], rfl, rfl, k D _ H1 (((s.mono e1).set i h1).set j h2) fun w H2 e2 hw => q w H2 (e1.trans e2) hw⟩
theorem b_drop (h : EvD te ds d1) (k : BdD u ds d) : BdD (tSeq (tDrop te) u) ds d := fun D σ H s q =>
  h σ H s _ fun v H1 e1 hv => k D σ H1 (s.mono e1) fun w H2 e2 hw => q w H2 (e1.trans e2) hw
end

/-! ### promises -/
/-- from a: the arguments are dl a, the answer is d a -/
def spF {α : Type} (pre : α → Prop) (dl : α → List DP) (d : α → DP) : Sp := fun vs H Q _ => ∃ a, pre a ∧ AllIs (dl a) vs H ∧ ∀ v H', Same H H' → (d a).is v H' → Q v H'
theorem callP {α : Type} {pre : α → Prop} {dl : α → List DP} {d : α → DP} (a : α) (h : pre a) : CallP (spF pre dl d) (dl a) (d a) := fun vs H hv Q E q => ⟨a, h, hv, q⟩
/-- the slots at a def's entry -/
def slots (N : List Str) (dl : List DP) : List (Option DP) := dl.map some ++ List.replicate (N.length - dl.length) none
theorem sl_start {N : List Str} {dl : List DP} {vs : List V} {H : Hp} (h : AllIs dl vs H) : Sl (L2.start N vs) (slots N dl) H := by
  have hl := h.length
  refine ⟨by unfold L2.start slots; simp [hl], fun i d hd => ?_⟩
  unfold slots at hd
  unfold L2.start
  by_cases e : i < dl.length
  · rw [List.getElem?_append_left (by simpa using e), List.getElem?_map] at hd
    have hd : dl[i]? = some d := by
      cases q : dl[i]? with
      | none => rw [q] at hd; cases hd
      | some z =>
        rw [q] at hd
        exact congrArg some (Option.some.inj (Option.some.inj hd))
    obtain ⟨v, h1, h2⟩ := h.get hd
    refine ⟨v, ?_, h2⟩
    rw [List.getElem?_append_left (by simp; omega), List.getElem?_map, h1]
    rfl
  · rw [List.getElem?_append_right (by simp; omega)] at hd
    rw [List.getElem?_replicate] at hd
    split at hd
    · cases hd
    · cases hd
section
variable {P : Program} {w : World} {mg : Str → Option Value} {base : Heap} {K : PySem.W.Frag}
/-- a def by what its body is worth -/
theorem def_ok {α : Type} {pre : α → Prop} {dl : α → List DP} {d : α → DP} {x : Str} {st : Stmt} {f : Addr} {fd : FuncData} {N ps : List Str} {k : Nat} (F : C8.Def K mg x st f fd) (b : Binds K fd ps []) (S : FnScope N ps (C8.fnScope st)) (hl : ∀ a, (dl a).length = ps.length)
    (body : ∀ (cdv : Value) (A : Around) (outer : List Env) (s : Shared) (H : Hp) (E : XK), Room k (A.deeper (envOfC x (C8.fnScope st) s.heap.objs.size f cdv)) →
      ∃ t, PSs (cxOf C8.CX0 P w K mg base N x (C8.fnScope st) f cdv A outer s H E).nox (C8.fnBody st) t ∧ ∀ a, pre a → BdD t (slots N (dl a)) (d a)) : C8.Cal P w K mg base (k + 1) x (spF pre dl d) [] := by
  refine C8.cal0 F b .nil S (fun vs H Q E h => ?_) (fun cdv A outer s H vs Q E hr h => ?_)
  · obtain ⟨a, _, h1, _⟩ := h
    rw [h1.length, hl]
  · obtain ⟨t, h1, h2⟩ := body cdv A outer s H E hr
    refine ⟨t, h1, ?_⟩
    obtain ⟨a, hp, ha, q⟩ := h
    exact h2 a hp { nx := fun _ H' => Q .non H', rt := Q } _ H (sl_start ha) q
end
end K65

/-! K65C: comprehensions -/
namespace K65
open PySem PySem.Spec PyProof.Rows L2

/-- all but the lists stands -/
def Keep (H H' : Hp) : Prop := ∀ b o, H b = some o → (∀ xs, o ≠ .lst xs) → H' b = some o
theorem Keep.of_same {H H' : Hp} (e : Same H H') : Keep H H' := fun b o h _ => e b o h
theorem Keep.trans {H H1 H2 : Hp} (a : Keep H H1) (b : Keep H1 H2) : Keep H H2 := fun c o h n => b c o (a c o h n) n
theorem Keep.upd {H : Hp} {D : Addr} {acc xs : List V} (h : H D = some (.lst acc)) : Keep H (upd H D (.lst xs)) := fun b o e n => by
  by_cases z : b = D
  · subst z
    rw [h] at e
    exact absurd (Option.some.inj e).symm (n acc)
  · rw [upd_ne z]
    exact e
/-- no list is asked for -/
def DP.Stiff (d : DP) : Prop := ∀ v H H', Keep H H' → d.is v H → d.is v H'
theorem keep_t {K : PySem.W.Frag} {H H' : Hp} {a : Addr} {xs : List V} (e : Keep H H') (h : SqT K H a xs) : SqT K H' a xs := by
  rcases h with (h | ⟨o, h⟩) | h
  · exact .inl (.inl (e _ _ h fun _ z => nomatch z))
  · exact .inl (.inr ⟨o, e _ _ h fun _ z => nomatch z⟩)
  · exact .inr h
mutual
def noL : PyData → Bool
  | .none | .bool _ | .int _ | .str _ => true
  | .list _ => false
  | .tuple xs => noLs xs
  | .dict _ => false
def noLs : List PyData → Bool
  | [] => true
  | x :: xs => noL x && noLs xs
end
mutual
theorem dp_keep {K : PySem.W.Frag} {H H' : Hp} (e : Keep H H') : ∀ (d : PyData) (v : V), noL d = true → Dp K H v d → Dp K H' v d
  | _, _, _, .non => .non
  | _, _, _, .bl b => .bl b
  | _, _, _, .int i => .int i
  | _, _, _, .str x => .str x
  | .list _, _, h, _ => by
    unfold noL at h
    cases h
  | .tuple ds, _, h, .tup h1 h2 => .tup (keep_t e h1) (dpAll_keep e ds _ (by unfold noL at h; exact h) h2)
theorem dpAll_keep {K : PySem.W.Frag} {H H' : Hp} (e : Keep H H') : ∀ (ds : List PyData) (vs : List V), noLs ds = true → DpAll K H vs ds → DpAll K H' vs ds
  | _, _, _, .nil => .nil
  | d :: ds, _, h, .cons h1 h2 => by
    unfold noLs at h
    rw [Bool.and_eq_true] at h
    exact .cons (dp_keep e d _ h.1 h1) (dpAll_keep e ds _ h.2 h2)
end
theorem stiff_D {K : PySem.W.Frag} {x : PyData} (h : noL x = true) : (dD K x).Stiff := fun _ _ _ e q => dp_keep e _ _ h q
theorem stiff_V {v : V} : (dV v).Stiff := fun _ _ _ _ q => q
theorem AllIs.keep {dl : List DP} {vs : List V} {H H' : Hp} (e : Keep H H') (hs : ∀ d ∈ dl, d.Stiff) (h : AllIs dl vs H) : AllIs dl vs H' := by
  induction h with
  | nil => exact .nil
  | cons a _ ih => exact .cons (hs _ List.mem_cons_self _ _ _ e a) (ih e fun d hd => hs d (List.mem_cons_of_mem _ hd))
theorem stiff_tup {K : PySem.W.Frag} {dl : List DP} (hs : ∀ d ∈ dl, d.Stiff) : (dTup K dl).Stiff := fun v H H' e q => by
  obtain ⟨a, vs, h1, h2, h3⟩ := q
  exact ⟨a, vs, h1, keep_t e h2, h3.keep e hs⟩
theorem stiff_ex {α : Type} {S : α → Prop} {D : α → DP} (h : ∀ x, S x → (D x).Stiff) : (dEx S D).Stiff := fun v H H' e q => by
  obtain ⟨x, h1, h2⟩ := q
  exact ⟨x, h1, h x h1 _ _ _ e h2⟩

/-- a comprehension over whatever walks -/
theorem lc_gen {J : It} {n : Nat} {G : Hp → Prop} {Y : Nat → Hp → V → Hp → Prop} (w : Walk J n G Y) {g : TG} {tt : TT} {te : TE} {vs : List Nat} {σ : L2.St} {H1 : Hp} {D : Addr} {Qd : Hp → Prop} {dsj : Nat → List (Option DP)} {f : Nat → DP} {p : Nat → Bool}
    (hD : H1 D = none) (hn : n ≤ 1000) (hG : ∀ H, Same H1 H → G H)
    (hg : ∀ j x H H', j < n → Same H1 H → Y j H x H' → Same H H' ∧ ∀ Kk : L2.St → Hp → Prop, (∀ σ2, wipe σ2 vs = wipe σ vs → Sl σ2 (dsj j) H' → Kk σ2 H') → g x (wipe σ vs) H' Kk)
    (ht : ∀ j, j < n → EvB tt (dsj j) (p j)) (he : ∀ j, j < n → p j = true → EvD te (dsj j) (f j)) (hs : ∀ j, j < n → p j = true → (f j).Stiff)
    (hd : ∀ H acc, Same H1 H → H D = some (.lst acc) → AllIs (((List.range n).filter p).map f) acc H → Qd H) :
    ∃ W : Nat → Nat → Hp → Prop, (∃ m, W 0 m (upd H1 D (.lst []))) ∧ ∀ i m H, W i m H →
      (J.stop i H ∧ Qd H) ∨ (J.go i H ∧ ∃ Nx : Hp → Prop, (∀ H', Nx H' → ∃ m', m' < m ∧ W (i + 1) m' H') ∧ ∀ x H', J.yld i H x H' → g x (wipe σ vs) H' fun σ2 H2 => wipe σ2 vs = wipe σ vs ∧ tt σ2 H2 fun b H3 =>
        if b = true then te σ2 H3 fun y H4 => ∃ acc, H4 D = some (.lst acc) ∧ acc.length < sizeLine ∧ Nx (upd H4 D (.lst (acc ++ [y]))) else Nx H3) := by
  refine lc_it w (fun k H => Same H1 H ∧ ∃ acc, H D = some (.lst acc) ∧ acc.length ≤ k ∧ AllIs (((List.range k).filter p).map f) acc H) ?_ (fun i H hi h => hG H h.1) (fun i x H H' hi h y => ?_) (fun H h => ?_)
  · exact ⟨same_new hD, [], upd_same, Nat.le_refl _, .nil⟩
  · obtain ⟨s1, acc, hDa, hl, ha⟩ := h
    obtain ⟨s2, hk⟩ := hg i x H H' hi s1 y
    refine hk _ fun σ2 hw hsl => ⟨hw, ht i hi σ2 H' hsl _ fun H3 s3 => ?_⟩
    cases hp : p i with
    | false =>
      rw [if_neg Bool.false_ne_true]
      refine ⟨(s1.trans s2).trans s3, acc, s3 _ _ (s2 _ _ hDa), by omega, ?_⟩
      rw [List.range_succ, List.filter_append, List.filter_cons_of_neg (by rw [hp]; exact Bool.false_ne_true), List.filter_nil, List.append_nil]
      exact ha.mono (s2.trans s3)
    | true =>
      rw [if_pos rfl]
      refine he i hi hp σ2 H3 (hsl.mono s3) _ fun v H4 s4 hv => ?_
      have s24 : Same H H4 := (s2.trans s3).trans s4
      refine ⟨acc, s24 _ _ hDa, Nat.lt_of_le_of_lt hl (small1000 (by omega)), fun b o e => ?_, acc ++ [v], upd_same, by simp; omega, ?_⟩
      · rw [upd_ne (ne_of_none e hD)]
        exact s24 _ _ (s1 _ _ e)
      · rw [List.range_succ, List.filter_append, List.filter_cons_of_pos hp, List.filter_nil, List.map_append]
        refine (((ha.mono s24).snoc hv)).keep (Keep.upd (s24 _ _ hDa)) fun d hd => ?_
        rcases List.mem_append.mp hd with z | z
        · obtain ⟨j, hj, rfl⟩ := List.mem_map.mp z
          have hj := List.mem_filter.mp hj
          exact hs j (by have := List.mem_range.mp hj.1; omega) hj.2
        · have e : d = f i := by simpa using z
          rw [e]
          exact hs i hi hp
  · obtain ⟨s1, acc, hDa, hl, ha⟩ := h
    exact hd H acc s1 hDa ha
section
variable {K : PySem.W.Frag} {ds : List (Option DP)} {te : TE} {tt : TT} {ta : TA} {vs : List Nat} {i : Nat} {f : Nat → DP} {p : Nat → Bool}
theorem all_true {n : Nat} {f : Nat → DP} : ((List.range n).filter fun _ => true).map f = (List.range n).map f := by
  congr 1
  exact List.filter_eq_self.mpr fun _ _ => rfl
theorem eb_yes : EvB tYes ds true := fun σ H s Q q => q H (Same.refl H)
/-- [e for x in range(lo, hi) if ..] -/
theorem ed_lcR2 {lo hi : Int} (h : EvA ta ds [dV (.int lo), dV (.int hi)]) (hb : -(2 ^ 61) ≤ lo ∧ lo < 2 ^ 61 ∧ -(2 ^ 61) ≤ hi ∧ hi < 2 ^ 61) (hn : (hi - lo).toNat ≤ 1000) (hi' : i ∈ vs)
    (ht : ∀ j : Nat, (j : Int) < hi - lo → EvB tt ((wipeD ds vs).set i (some (dV (.int (lo + (j : Int)))))) (p j)) (he : ∀ j : Nat, (j : Int) < hi - lo → p j = true → EvD te ((wipeD ds vs).set i (some (dV (.int (lo + (j : Int)))))) (f j))
    (hs : ∀ j : Nat, (j : Int) < hi - lo → p j = true → (f j).Stiff) : EvD (tLc (iRng2 ta) (gName i) tt te vs) ds (dLst K (((List.range (hi - lo).toNat).filter p).map f)) := fun σ H s Q q =>
  h σ H s _ fun us H1 e1 hv => by
    cases hv with
    | cons a1 r1 =>
      cases r1 with
      | cons a2 r2 =>
        cases r2
        cases a1
        cases a2
        refine ⟨lo, hi, rfl, by omega, fun D hD => ?_⟩
        refine lc_gen (walk_range (lo := lo) (n := (hi - lo).toNat)) (dsj := fun j => (wipeD ds vs).set i (some (dV (.int (lo + (j : Int)))))) (f := f) (p := p) hD hn (fun _ _ => trivial) (fun j x H2 H3 hj s2 y => ?_) (fun j hj => ht j (by omega)) (fun j hj => he j (by omega)) (fun j hj => hs j (by omega)) (fun H2 acc s2 hDa ha => ?_)
        · obtain ⟨rfl, rfl⟩ := y
          refine ⟨Same.refl _, fun Kk hk => hk _ (wipe_idem_set hi') ?_⟩
          exact (((s.mono e1).mono s2).wipe vs).set i rfl
        · exact q (.ref D) H2 (e1.trans s2) ⟨D, acc, rfl, SqL.of hDa, ha⟩
/-- [e for x in range(hi)] -/
theorem ed_lcR1 {hi : Int} (h : EvA ta ds [dV (.int hi)]) (hb : -(2 ^ 61) ≤ hi ∧ hi < 2 ^ 61) (hn : hi.toNat ≤ 1000) (hi' : i ∈ vs)
    (ht : ∀ j : Nat, (j : Int) < hi → EvB tt ((wipeD ds vs).set i (some (dV (.int (j : Int))))) (p j)) (he : ∀ j : Nat, (j : Int) < hi → p j = true → EvD te ((wipeD ds vs).set i (some (dV (.int (j : Int))))) (f j))
    (hs : ∀ j : Nat, (j : Int) < hi → p j = true → (f j).Stiff) : EvD (tLc (iRng1 ta) (gName i) tt te vs) ds (dLst K (((List.range hi.toNat).filter p).map f)) := fun σ H s Q q =>
  h σ H s _ fun us H1 e1 hv => by
    cases hv with
    | cons a1 r1 =>
      cases r1
      cases a1
      refine ⟨hi, rfl, by omega, by omega, fun D hD => ?_⟩
      refine lc_gen (walk_range (lo := 0) (n := hi.toNat)) (dsj := fun j => (wipeD ds vs).set i (some (dV (.int (j : Int))))) (f := f) (p := p) hD hn (fun _ _ => trivial) (fun j x H2 H3 hj s2 y => ?_) (fun j hj => ht j (by omega)) (fun j hj => he j (by omega)) (fun j hj => hs j (by omega)) (fun H2 acc s2 hDa ha => ?_)
      · obtain ⟨rfl, rfl⟩ := y
        refine ⟨Same.refl _, fun Kk hk => hk _ (wipe_idem_set hi') ?_⟩
        refine (((s.mono e1).mono s2).wipe vs).set i ?_
        show V.int (0 + (j : Int)) = _
        rw [Int.zero_add]
      · exact q (.ref D) H2 (e1.trans s2) ⟨D, acc, rfl, SqL.of hDa, ha⟩
/-- over a tuple of described things -/
theorem ed_lcT {dl : List DP} (h : EvD te ds (dTup K dl)) {te' : TE} (hn : dl.length ≤ 1000) (hi' : i ∈ vs)
    (ht : ∀ j d, dl[j]? = some d → EvB tt ((wipeD ds vs).set i (some d)) (p j)) (he : ∀ j d, dl[j]? = some d → p j = true → EvD te' ((wipeD ds vs).set i (some d)) (f j))
    (hs : ∀ j d, dl[j]? = some d → p j = true → (f j).Stiff) : EvD (tLc (iTup K te) (gName i) tt te' vs) ds (dLst K (((List.range dl.length).filter p).map f)) := fun σ H s Q q =>
  h σ H s _ fun v H1 e1 hv => by
    obtain ⟨a, us, rfl, hS, ha⟩ := hv
    refine ⟨a, rfl, ⟨us, hS⟩, fun D hD => ?_⟩
    have hl : us.length = dl.length := ha.length
    refine lc_gen (walk_tup (K := K) (a := a) (xs := us)) (dsj := fun j => (wipeD ds vs).set i (dl[j]?)) (f := f) (p := p) hD (by omega) (fun H2 s2 => same_t s2 hS) (fun j x H2 H3 hj s2 y => ?_) (fun j hj => ?_) (fun j hj hp => ?_) (fun j hj hp => ?_) (fun H2 acc s2 hDa hA => ?_)
    · obtain ⟨rfl, hx⟩ := y
      have hj' : j < dl.length := by omega
      have ej : dl[j]? = some dl[j] := List.getElem?_eq_getElem hj'
      refine ⟨Same.refl _, fun Kk hk => hk _ (wipe_idem_set hi') ?_⟩
      rw [ej]
      refine (((s.mono e1).mono s2).wipe vs).set i ?_
      obtain ⟨w, h1, h2⟩ := (ha.mono s2).get ej
      rw [hx] at h1
      rw [Option.some.inj h1]
      exact h2
    · have ej : dl[j]? = some dl[j] := List.getElem?_eq_getElem (by omega)
      rw [ej]
      exact ht j _ ej
    · have ej : dl[j]? = some dl[j] := List.getElem?_eq_getElem (by omega)
      rw [ej]
      exact he j _ ej hp
    · have ej : dl[j]? = some dl[j] := List.getElem?_eq_getElem (by omega)
      exact hs j _ ej hp
    · rw [hl] at hA
      exact q (.ref D) H2 (e1.trans s2) ⟨D, acc, rfl, SqL.of hDa, hA⟩
/-- for a, b in a tuple of pairs -/
theorem ed_lcT2 {pl : List (DP × DP)} {i2 : Nat} (h : EvD te ds (dTup K (pl.map fun q => dTup K [q.1, q.2]))) {te' : TE} (hn : pl.length ≤ 1000) (hi' : i ∈ vs) (hi2 : i2 ∈ vs)
    (he : ∀ j q, pl[j]? = some q → EvD te' (((wipeD ds vs).set i (some q.1)).set i2 (some q.2)) (f j))
    (hs : ∀ j q, pl[j]? = some q → (f j).Stiff) : EvD (tLc (iTup K te) (gTup K 2 (gCons (gName i) (gCons (gName i2) gNil))) tYes te' vs) ds (dLst K ((List.range pl.length).map f)) := fun σ H s Q q =>
  h σ H s _ fun v H1 e1 hv => by
    obtain ⟨a, us, rfl, hS, ha⟩ := hv
    refine ⟨a, rfl, ⟨us, hS⟩, fun D hD => ?_⟩
    have hl : us.length = pl.length := by rw [ha.length, List.length_map]
    refine lc_gen (walk_tup (K := K) (a := a) (xs := us)) (dsj := fun j => ((wipeD ds vs).set i ((pl[j]?).map (·.1))).set i2 ((pl[j]?).map (·.2))) (f := f) (p := fun _ => true) hD (by omega) (fun H2 s2 => same_t s2 hS) (fun j x H2 H3 hj s2 y => ?_) (fun j hj => eb_yes) (fun j hj hp => ?_) (fun j hj hp => ?_) (fun H2 acc s2 hDa hA => ?_)
    · obtain ⟨rfl, hx⟩ := y
      have ej : pl[j]? = some pl[j] := List.getElem?_eq_getElem (by omega)
      refine ⟨Same.refl _, fun Kk hk => ?_⟩
      obtain ⟨w, h1, h2⟩ := (ha.mono s2).get (i := j) (d := dTup K [pl[j].1, pl[j].2]) (by rw [List.getElem?_map, ej]; rfl)
      rw [hx] at h1
      have h1 : x = w := Option.some.inj h1
      subst h1
      obtain ⟨b, ws, rfl, hb, hw⟩ := h2
      cases hw with
      | @cons _ _ w1 _ _ a1 r1 =>
        cases r1 with
        | @cons _ _ w2 _ _ a2 r2 =>
          cases r2
          refine ⟨b, [w1, w2], rfl, hb, rfl, w1, [w2], rfl, w2, [], rfl, rfl, hk _ ?_ ?_⟩
          · have e1 := wipe_idem_set (σ := (wipe σ vs).set i (some w1)) (i := i2) (v := w2) hi2
            apply List.ext_getElem?
            intro k
            have key : ∀ (τ : L2.St) (us : List Nat) (k : Nat), (wipe τ us)[k]? = if k ∈ us then (if k < τ.length then some none else none) else τ[k]? := by
              intro τ us
              induction us with
              | nil => intro k; simp [L2.wipe]
              | cons u us ih =>
                intro k
                show ((L2.wipe τ us).set u none)[k]? = _
                rw [List.getElem?_set]
                by_cases e : u = k
                · subst e
                  rw [if_pos rfl, L2.wipe_length, if_pos (List.mem_cons_self)]
                · rw [if_neg e, ih]
                  by_cases m : k ∈ us
                  · rw [if_pos m, if_pos (List.mem_cons_of_mem _ m)]
                  · rw [if_neg m, if_neg (by simp [m]; exact fun z => e z.symm)]
            rw [key, key]
            by_cases m : k ∈ vs
            · rw [if_pos m, if_pos m, List.length_set, List.length_set, L2.wipe_length]
            · rw [if_neg m, if_neg m, List.getElem?_set, if_neg (fun (z : i2 = k) => m (by rw [← z]; exact hi2)), List.getElem?_set, if_neg (fun (z : i = k) => m (by rw [← z]; exact hi')), key, if_neg m]
          · rw [ej]
            exact ((((s.mono e1).mono s2).wipe vs).set i a1).set i2 a2
    · have ej : pl[j]? = some pl[j] := List.getElem?_eq_getElem (by omega)
      rw [ej]
      exact he j _ ej
    · have ej : pl[j]? = some pl[j] := List.getElem?_eq_getElem (by omega)
      exact hs j _ ej
    · rw [all_true, hl] at hA
      exact q (.ref D) H2 (e1.trans s2) ⟨D, acc, rfl, SqL.of hDa, hA⟩
end
end K65

/-! K65E: further rules: enumerate of a tuple, // by any number, calls by keywords alone -/
namespace K65
open PySem PySem.Spec PyProof.Rows L2
open AutoSeq1 (wpAny_loadPart')
/-! ### enumerate of a tuple -/
theorem meets_enum_tup (tp : Addr) (its : Array Value) (ver : Nat) (dc : Option Addr) (slo : Array (Option Value)) :
    Meets (Builtin.«enumerate.__new__» ⟨[.type "enumerate", .ref tp], []⟩) (fun _ R s => s.heap.get? tp = some { cls := .type "tuple", dict := dc, data := .seq its ver, slots := slo } ∧
      R (.ok (.ret (.ref (s.heap.push { cls := .type "tuple_iterator", data := .fields #[.ref tp, .int 0 0] }).objs.size)))
        { s with heap := (s.heap.push { cls := .type "tuple_iterator", data := .fields #[.ref tp, .int 0 0] }).push { cls := .type "enumerate", data := .fields #[.none, .bool false, .ref s.heap.objs.size, rawInt 0, .none, .none] } }) :=
  .of_wp fun pr wo A R s h => by
    obtain ⟨heap, ge, dr, tk, os⟩ := s
    obtain ⟨htp, h⟩ := h
    have hsub := sub_enumerate
    have hT : Heap.IsTuple (Shared.heap ⟨heap, ge, dr, tk, os⟩) tp its := ⟨_, htp, rfl, ver, rfl⟩
    wp_walk using wpAny_loadPart' htp
    refine wpAny_stack_any fun st => wpAny_pure ?_
    split
    · rename_i c _ _ _ _ _
      cases (c == Value.type "enumerate")
      · wp_walk using wpAny_loadPart' htp, wpAny_pyIter_tuple hT
        exact ⟨_, rfl, h⟩
      · wp_walk using wpAny_loadPart' htp, wpAny_pyIter_tuple hT
        exact ⟨_, rfl, h⟩
    · wp_walk using wpAny_loadPart' htp, wpAny_pyIter_tuple hT
      exact ⟨_, rfl, h⟩
theorem call_enum_tup {prog : Program} {w : World} {A : Around} {E : Value → Shared → Prop} {s : Shared} {tp : Addr} {its : Array Value} {Q : Value → Shared → Prop} (hT : s.heap.IsTuple tp its)
    (h : ∀ h', IsEnum h' (s.heap.objs.size + 1) s.heap.objs.size 0 .none → h'.IsTupleIter s.heap.objs.size tp 0 →
      (∀ b o, s.heap.get? b = some o → h'.get? b = some o) → Q (.ref (s.heap.objs.size + 1)) { s with heap := h' }) :
    wpAny (model prog w) A (call (.type "enumerate") [.ref tp]) Q E s := by
  obtain ⟨⟨c, dc, dt, sl⟩, hl, hc, n, hd⟩ := hT
  replace hc : c = .type "tuple" := hc
  replace hd : dt = .seq its n := hd
  subst hc hd
  refine callType_new F.called_enumerate (by decide) (F.typeCall_enumerate_1 _) (F.newCall_enumerate_1 _) (fun obj => F.args_object_init_2 obj _) F.entry_enumerate_new (meets_enum_tup tp its n dc sl) ⟨hl, ?_⟩
  have hz : (s.heap.push { cls := .type "tuple_iterator", data := .fields #[.ref tp, .int 0 0] }).objs.size = s.heap.objs.size + 1 := Heap.size_push ..
  show _ ∧ _
  rw [hz]
  have he : IsEnum ((s.heap.push { cls := .type "tuple_iterator", data := .fields #[.ref tp, .int 0 0] }).push
      { cls := .type "enumerate", data := .fields #[.none, .bool false, .ref s.heap.objs.size, rawInt 0, .none, .none] }) (s.heap.objs.size + 1) s.heap.objs.size 0 .none := by
    have q := Heap.get?_push_size (s.heap.push { cls := .type "tuple_iterator", data := .fields #[.ref tp, .int 0 0] })
      (o := { cls := .type "enumerate", data := .fields #[.none, .bool false, .ref s.heap.objs.size, rawInt 0, .none, .none] }) rfl
    rw [hz] at q
    exact q
  exact ⟨⟨_, he, rfl⟩, h _ he ⟨_, Heap.get?_push_of_some _ (Heap.get?_push_size _ rfl), rfl, rfl⟩ fun b o x => Heap.get?_push_of_some _ (Heap.get?_push_of_some _ x)⟩
/-- the tuple at a as it stands at each turn, each item in a new pair -/
def ItE (K : PySem.W.Frag) (a : Addr) : It :=
  ⟨fun i H => ∃ (xs : List V) (x : V), SqT K H a xs ∧ xs[i]? = some x, fun i H v H' => ∃ T x, v = .ref T ∧ H T = none ∧ H' = upd H T (.tup [.int (i : Nat), x]) ∧ ∀ xs, SqT K H a xs → xs[i]? = some x, fun i H => ∃ xs : List V, SqT K H a xs ∧ xs.length ≤ i⟩
theorem turn_enumT {P : Program} {w : World} {K : PySem.W.Frag} {elts : List Expr} {kk : Nat} {tpos : Pos} (a e it : Addr) (hea : e ≠ a) (hia : a ≠ it) :
    Turn P w K (.Tuple elts kk tpos) (ItE K a) [e, it] e (fun i h => (∃ old, IsEnum h e it ((i : Nat) : Int) old) ∧ h.IsTupleIter it a i ∧ e ≠ it) where
  mem := by simp
  obj := fun i h st b hb => by
    obtain ⟨⟨old, he⟩, ⟨o, ho, hc, hd⟩, _⟩ := st
    rcases (show b = e ∨ b = it by simpa using hb) with z | z
    · subst z
      exact ⟨_, he, fun v q => nomatch q⟩
    · subst z
      refine ⟨o, ho, fun v q => ?_⟩
      rw [hd] at q
      cases q
  keep := fun i h h' st k => by
    obtain ⟨⟨old, he⟩, hi, hne⟩ := st
    exact ⟨⟨old, k e (by simp) _ he⟩, hi.at fun o q => k it (by simp) o q, hne⟩
  item := by
    intro X hP hw hK hc i pins s σ H E I hf st hg
    subst hP hw hK
    obtain ⟨⟨old, he⟩, hit, hne⟩ := st
    obtain ⟨xs, x, hq, hx⟩ := hg
    obtain ⟨its, rv, p, hz⟩ := I.tuple hq
    have hlt : i < its.toArray.size := by
      have l1 := rv.length
      have l2 : i < xs.length := by
        apply Classical.byContradiction
        intro z
        rw [List.getElem?_eq_none (by omega)] at hx
        cases hx
      simp
      omega
    have hel : e < s.heap.objs.size := Heap.lt_size he
    have hil : it < s.heap.objs.size := by
      obtain ⟨_, q, _⟩ := hit
      exact Heap.lt_size q
    refine wpAny_pyNext_enum_itemD (Draws.tuple (A := X.A.in1) (I.ok.hd hc) it a hia its.toArray) he ⟨hit, p⟩ hlt hne (by simp; exact ⟨hne, hea⟩) fun y h' tk hy ho hst hT hsz hk => ?_
    refine ⟨_, rfl, wpAny_letOwnedTupleGo_enum (s := { s with heap := h', toks := tk + 1 }) ho fun h'' he' sb => ?_⟩
    have ru : RelV x y := by
      obtain ⟨u, hu, ru⟩ := rv.get hx
      have : some u = some y := by
        rw [← hu]
        simpa using hy
      cases this
      exact ru
    have hT2 : h''.get? s.heap.objs.size = some { cls := .type "tuple", data := .seq #[.int i tk, y] } := (sb.2 _ (Nat.ne_of_gt hel)).trans hT
    have new : ObjOk X.prog X.w (upd H s.heap.objs.size (.tup [.int (i : Nat), x])) h'' s.heap.objs.size (.tup [.int (i : Nat), x]) :=
      ⟨by show 2 ≤ sizeLine; decide, [.int i tk, y], .cons ⟨_, rfl⟩ (.cons ru .nil), ⟨_, hT2, rfl, _, rfl⟩⟩
    have I1 : Inv X pins σ (upd H s.heap.objs.size (.tup [.int (i : Nat), x])) { s with heap := h'', toks := tk + 1 } :=
      I.turnedNew (ch := [e, it]) (fun b ob hb q => (sb.2 b (fun z => hb (by simp [z]))).trans (hk b ob (fun z => hb (by simp [z])) (fun z => hb (by simp [z])) q)) hf (Nat.le_refl _) new
    refine ⟨.ref s.heap.objs.size, _, I1, rfl, ⟨_, x, rfl, I.hok.fresh (Nat.le_refl _), rfl, fun ys hy => by rw [I.tuple_inj hy hq]; exact hx⟩, ⟨⟨y, ?_⟩, hst.1.at fun o q => (sb.2 it (Ne.symm hne)).trans q, hne⟩, fun b hb => ?_⟩
    · have e1 : ((i + 1 : Nat) : Int) = (i : Int) + 1 := by omega
      rw [e1]
      exact he'
    · have hb' : b < s.heap.objs.size := by
        rcases (show b = e ∨ b = it by simpa using hb) with z | z
        · rw [z]
          exact hel
        · rw [z]
          exact hil
      rw [upd_ne (Nat.ne_of_lt hb')]
      exact (hf b hb).1
  done := by
    intro X hP hw hK hc i pins s σ H E I hf st hg
    subst hP hw hK
    obtain ⟨⟨old, he⟩, hit, hne⟩ := st
    obtain ⟨xs, hq, hx⟩ := hg
    obtain ⟨its, rv, p, hz⟩ := I.tuple hq
    obtain ⟨f0, f1, f2, f3, f4, f5⟩ := hf it (by simp)
    have hl := rv.length
    have fin : ∀ h', Heap.ExtBut it s.heap h' → (none : Option Value) = none ∧ Inv X pins σ H { s with heap := h' } := fun h' eb => ⟨rfl, I.turned (t' := s.toks) (fun b o hb q => eb b o hb q) f0 f1 f3 f4 f5⟩
    -- the tuple's iterator is at its end
    have D0 : Draws X.prog X.w X.A.in1 it [it, a] i (fun j v => its.toArray[j]? = some v ∧ False) (fun j h => j = i ∧ h.IsTupleIter it a i ∧ h.IsTuple a its.toArray) := {
      live := fun j h st => let ⟨o, ho, _⟩ := st.2.1; ⟨o, ho⟩
      frame := fun j h h' st hk => ⟨st.1, st.2.1.at fun o q => hk it (by simp) o q, st.2.2.at fun o q => hk a (by simp) o q⟩
      item := fun j s Q E hj st hQ => absurd st.1 (by omega)
      done := fun s' Q E st hE => wpAny_nextOf_tuple_end (I.ok.hd hc) st.2.1 st.2.2 (by simp; omega) hE }
    exact wpAny_pyNext_enum_endD D0 he ⟨rfl, hit, p⟩ fin
  self := fun A i s Q E st h => by
    obtain ⟨⟨_, he⟩, _⟩ := st
    exact wpAny_pyIter_enum he h
def iEnumT (K : PySem.W.Frag) (ta : TA) : TI := fun σ H R => ta σ H fun vs H1 => ∃ a xs, vs = [.ref a] ∧ SqT K H1 a xs ∧ R (ItE K a) H1
theorem pi_enumT {X : Cx} {e : Expr} {ta : TA} {p pos tpos : Pos} {elts : List Expr} {kk : Nat} (hg : Gl X "enumerate") (hm : X.mg "enumerate" = none) (ha : PA X [e] ta) (hs : starEach [e] X.env = [(false, eval e X.env)] := by rfl) :
    PI X (.Tuple elts kk tpos) (.Call (.Name "enumerate" p) [e] [] pos) (iEnumT X.K ta) := by
  refine ⟨fun pins s σ H R I h => ?_⟩
  refine Call_ (ld_blt I hg hm boot_enumerate (PyProof.Rows.callWith_type1 (thn (ha.run pos pins s σ H _ I h) fun us s1 ⟨vs, H1, I1, r1, q1⟩ => ?_) hs rfl))
  obtain ⟨a, xs, ex, hq, q⟩ := q1
  subst ex
  cases r1 with
  | cons r rr =>
    cases rr
    cases r
    obtain ⟨its, rv, p', hz⟩ := I1.tuple hq
    have hal : a < s1.heap.objs.size := p'.lt
    refine call_enum_tup p' fun h' he hit hk => wpAny_pyIter_enum he ?_
    have I2 : Inv X pins σ H1 { s1 with heap := h' } := I1.kept (t' := s1.toks) hk
    refine ⟨s1.heap.objs.size + 1, [s1.heap.objs.size + 1, s1.heap.objs.size], _, _, H1, rfl, I2, turn_enumT a (s1.heap.objs.size + 1) s1.heap.objs.size (Nat.ne_of_gt (Nat.lt_succ_of_lt hal)) (Nat.ne_of_lt hal), ⟨⟨.none, he⟩, hit, Nat.succ_ne_self _⟩, fun b hb => ?_, q⟩
    have hle : s1.heap.objs.size ≤ b := by
      rcases (show b = s1.heap.objs.size + 1 ∨ b = s1.heap.objs.size by simpa using hb) with z | z
      · rw [z]
        exact Nat.le_succ _
      · rw [z]
        exact Nat.le_refl _
    exact I1.fpOk hle (I1.hok.fresh hle)
theorem walk_enumT {K : PySem.W.Frag} {a : Addr} {xs : List V} : Walk (ItE K a) xs.length (fun H => SqT K H a xs) (fun i H v H' => ∃ T x, v = .ref T ∧ H T = none ∧ H' = upd H T (.tup [.int (i : Nat), x]) ∧ xs[i]? = some x) :=
  ⟨fun i _ hi q => ⟨xs, xs[i], q, by simp [hi]⟩, fun _ q => ⟨xs, q, Nat.le_refl _⟩, fun i H v H' _ q y => by
    obtain ⟨T, x, h1, h2, h3, h4⟩ := y
    exact ⟨T, x, h1, h2, h3, h4 xs q⟩⟩
/-! ### numbers -/
/-- // where C does it by itself -/
def CDivA (i j : Int) : Prop := j ≠ 0 ∧ Builtin.divisionGoesByPylong i j = false
theorem op_fdivX {X : Cx} : OpR X (binaryOp .FloorDiv) (rI CDivA fun i j => .int (i.fdiv j)) := opI fun i j t u s Q E hc q => floordiv_int hc.1 q (.inl hc.2)
theorem cdiv_of {i j : Int} (hj : j ≠ 0) (hi : i.natAbs < 2 ^ 13500) : CDivA i j := by
  refine ⟨hj, ?_⟩
  have e : ¬ ((if i == 0 then 0 else i.natAbs.log2 / 30 + 1) > 450) := by
    by_cases z : i = 0
    · subst z
      decide
    · have b : i.natAbs.log2 < 13500 := by
        apply Classical.byContradiction
        intro y
        have h1 := Nat.log2_self_le (n := i.natAbs) (by omega)
        have h2 : 2 ^ 13500 ≤ 2 ^ i.natAbs.log2 := Nat.pow_le_pow_right (by decide) (by omega)
        exact absurd hi (Nat.not_lt.mpr (Nat.le_trans h2 h1))
      rw [if_neg (by simpa using z)]
      omega
  show (decide ((if j == 0 then 0 else j.natAbs.log2 / 30 + 1) > 300) && decide ((if i == 0 then 0 else i.natAbs.log2 / 30 + 1) > (if j == 0 then 0 else j.natAbs.log2 / 30 + 1) + 150)) = false
  by_cases y : (if j == 0 then 0 else j.natAbs.log2 / 30 + 1) > 300
  · rw [decide_eq_false (show ¬ ((if i == 0 then 0 else i.natAbs.log2 / 30 + 1) > (if j == 0 then 0 else j.natAbs.log2 / 30 + 1) + 150) by omega), Bool.and_false]
  · rw [decide_eq_false y, Bool.false_and]
theorem cdiv_small {i j : Int} (hj : j ≠ 0) (hi : j.natAbs < 1073741824) : CDivA i j := ⟨hj, PyProof.noPylong_small hi⟩
theorem cmul_of {i j : Int} (hi : i.natAbs < 2 ^ 13500) (hj : j.natAbs < 2 ^ 13500) : CMulW i j := wide_mul hi hj (by decide) (by decide) (by decide)
/-! ### f(k = v, ..) -/
theorem pe_callKW {X : Cx} {CX : CXT} {k : Nat} {f : Addr} {fd : FuncData} {ps ks : List Str} {sp : Sp} {E : XK} {x : Str} {p pos : Pos} {kws : List Keyword} {tk : TA} {g : List Value → List Value → List Value} {gV : List V → List V → List V}
    (F : FnOk X.prog X.w X.K X.mg X.base CX k f fd ps sp) (hr : Room k X.A) (hg : Gl X x) (hm : X.mg x = some (.ref f)) (hk : PySem.W.keepIn X.K (.ref f) = true) (hb : KBinds X.K fd ps ks g gV) (hx : Passes CX X E) (hkw : PK X kws tk)
    (hall : (backToKw pos (keywordEach kws X.env)).all (·.1.isSome) = true := by rfl) (hks : (backToKw pos (keywordEach kws X.env)).filterMap (·.1) = ks := by rfl) (hdb : (x == ("__debug__" : Str)) = false := by decide)
    (hpl : ((backTo pos (starEach [] X.env)).any (·.1) || (backToKw pos (keywordEach kws X.env)).any (·.1.isNone)) = false := by rfl) :
    PE X (.Call (.Name x p) [] kws pos) (tCallK sp gV E tNil tk) := by
  refine ⟨fun pins s σ H Q I h => ?_⟩
  refine wpAny_Call_Name_kw (ld_glob I hg hm ?_ hdb)
  refine PySem.W.callWith_KW0 (h₀ := X.base) I.ok.mod.kin hk hall ?_ hpl
  refine thn (hkw.run pos pins s σ H _ I h) fun ws s2 ⟨zs, H2, I2, rz, q2⟩ => ⟨I2.kIn, ?_⟩
  rw [hks]
  exact run_fnk F hr hb hx I2 .nil rz q2
end K65

/-! K65F: rows and lots as data -/
namespace K65
open PySem PySem.Spec PyProof.Rows L2

/-! ### fractions and rows -/
def ratD (q : Rat) : PyData := .tuple [.int q.num, .int (q.den : Int)]
def fracsD (xs : List Rat) : PyData := .tuple (xs.map ratD)
def rowD (r : Row) : PyData := .tuple [.int r.1, fracsD r.2]
noncomputable def pD (p : L) : PyData := rowD (rowOf p)
noncomputable def pairD (p q : L) : PyData := .tuple [pD p, pD q]
theorem rat_ext {a b : Rat} (h1 : a.num = b.num) (h2 : a.den = b.den) : a = b := by
  cases a
  cases b
  simp only at h1 h2
  subst h1
  subst h2
  rfl
theorem eqv_rat (a b : Rat) : PyData.eqv (ratD a) (ratD b) = decide (a = b) := by
  show (a.num == b.num && ((a.den : Int) == (b.den : Int) && true)) = _
  by_cases e : a = b
  · subst e
    simp
  · rw [decide_eq_false e, Bool.and_true]
    apply Classical.byContradiction
    intro z
    rw [Bool.not_eq_false, Bool.and_eq_true, beq_iff_eq, beq_iff_eq] at z
    exact e (rat_ext z.1 (by omega))
theorem eqv_rats : ∀ xs ys : List Rat, PyData.eqvAll (xs.map ratD) (ys.map ratD) = decide (xs = ys)
  | [], [] => by simp [PyData.eqvAll]
  | [], y :: ys => by simp [PyData.eqvAll]
  | x :: xs, [] => by simp [PyData.eqvAll]
  | x :: xs, y :: ys => by
    simp only [List.map_cons, PyData.eqvAll, eqv_rat, eqv_rats xs ys, List.cons.injEq]
    by_cases e1 : x = y <;> by_cases e2 : xs = ys <;> simp [e1, e2]
theorem eqv_row (r r' : Row) : PyData.eqv (rowD r) (rowD r') = decide (r = r') := by
  obtain ⟨s, xs⟩ := r
  obtain ⟨t, ys⟩ := r'
  show (s == t && (PyData.eqvAll (xs.map ratD) (ys.map ratD) && true)) = _
  rw [eqv_rats]
  by_cases e1 : s = t <;> by_cases e2 : xs = ys <;> simp [e1, e2]
open Classical in
theorem eqv_p (p q : L) : PyData.eqv (pD p) (pD q) = decide (p = q) := by
  unfold pD
  rw [eqv_row]
  by_cases e : p = q
  · subst e
    simp
  · rw [decide_eq_false e, decide_eq_false fun z => e (rowOf_inj z)]
open Classical in
theorem eqv_pair (p q p' q' : L) : PyData.eqv (pairD p q) (pairD p' q') = decide (p = p' ∧ q = q') := by
  show (PyData.eqv (pD p) (pD p') && (PyData.eqv (pD q) (pD q') && true)) = _
  rw [eqv_p, eqv_p]
  by_cases e1 : p = p' <;> by_cases e2 : q = q' <;> simp [e1, e2]
theorem lay_rats : ∀ xs : List Rat, PyData.canLayAll0 (xs.map ratD) = true
  | [] => rfl
  | x :: xs => by
    show (PyData.canLay0 (ratD x) && PyData.canLayAll0 (xs.map ratD)) = true
    rw [lay_rats xs]
    rfl
theorem depth_rats : ∀ xs : List Rat, PyData.depthAll (xs.map ratD) ≤ 1
  | [] => Nat.zero_le _
  | x :: xs => by
    show max (PyData.depth (ratD x)) (PyData.depthAll (xs.map ratD)) ≤ 1
    have := depth_rats xs
    have : PyData.depth (ratD x) = 1 := rfl
    omega
theorem lay_row (r : Row) : PyData.canLay0 (rowD r) = true := by
  show (true && (PyData.canLayAll0 (r.2.map ratD) && true)) = true
  rw [lay_rats]
  rfl
theorem depth_row (r : Row) : PyData.depth (rowD r) ≤ 3 := by
  show max 0 (max (PyData.depthAll (r.2.map ratD) + 1) 0) + 1 ≤ 3
  have := depth_rats r.2
  omega
theorem shaped_of {x : PyData} (h1 : PyData.canLay0 x = true) (h2 : PyData.depth x ≤ 64) : SeqAt.shaped x = true := by
  unfold SeqAt.shaped
  rw [h1, decide_eq_true h2]
  rfl
theorem shaped_rat (a : Rat) : SeqAt.shaped (ratD a) = true := shaped_of rfl (by show (1 : Nat) ≤ 64; decide)
theorem shaped_row (r : Row) : SeqAt.shaped (rowD r) = true := shaped_of (lay_row r) (by have := depth_row r; omega)
theorem shaped_p (p : L) : SeqAt.shaped (pD p) = true := shaped_row _
theorem shaped_pair (p q : L) : SeqAt.shaped (pairD p q) = true := by
  refine shaped_of ?_ ?_
  · show (PyData.canLay0 (pD p) && (PyData.canLay0 (pD q) && true)) = true
    rw [show PyData.canLay0 (pD p) = true from lay_row _, show PyData.canLay0 (pD q) = true from lay_row _]
    rfl
  · show max (PyData.depth (pD p)) (max (PyData.depth (pD q)) 0) + 1 ≤ 64
    have := depth_row (rowOf p)
    have := depth_row (rowOf q)
    unfold pD
    omega
theorem noL_rats : ∀ xs : List Rat, noLs (xs.map ratD) = true
  | [] => rfl
  | x :: xs => by
    show (noL (ratD x) && noLs (xs.map ratD)) = true
    rw [noL_rats xs]
    rfl
theorem noL_row (r : Row) : noL (rowD r) = true := by
  show (true && (noLs (r.2.map ratD) && true)) = true
  rw [noL_rats]
  rfl
theorem noL_pair (p q : L) : noL (pairD p q) = true := by
  show (noL (pD p) && (noL (pD q) && true)) = true
  rw [show noL (pD p) = true from noL_row _, show noL (pD q) = true from noL_row _]
  rfl
theorem stiff_rat {K : PySem.W.Frag} {a : Rat} : (dD K (ratD a)).Stiff := stiff_D rfl
theorem stiff_p {K : PySem.W.Frag} {p : L} : (dD K (pD p)).Stiff := stiff_D (noL_row _)
/-- a fraction by its value -/
theorem ratD_num {a : Rat} : atI [PyData.int a.num, PyData.int (a.den : Int)] 0 = some (.int a.num) := rfl
theorem ratD_den {a : Rat} : atI [PyData.int a.num, PyData.int (a.den : Int)] 1 = some (.int (a.den : Int)) := rfl

/-! ### lots -/
def lk (t : Tm) (k : Int) : Option Rat := (t.find? fun x => decide (x.1 = k)).map (·.2)
def putT (t : Tm) (k : Int) (q : Rat) : Tm := if (lk t k).isSome then t.map fun x => if x.1 = k then (k, q) else x else t ++ [(k, q)]
def KeysOk (t : Tm) : Prop := (t.map (·.1)).Nodup
theorem lk_nil (k : Int) : lk [] k = none := rfl
theorem lk_pos {x : Int × Rat} {t : Tm} {k : Int} (e : x.1 = k) : lk (x :: t) k = some x.2 := by simp [lk, List.find?_cons, e]
theorem lk_neg {x : Int × Rat} {t : Tm} {k : Int} (e : ¬ x.1 = k) : lk (x :: t) k = lk t k := by simp [lk, List.find?_cons, e]
theorem lk_none_of {t : Tm} {k : Int} (h : k ∉ t.map (·.1)) : lk t k = none := by
  induction t with
  | nil => rfl
  | cons x t ih =>
    rw [List.map_cons, List.mem_cons] at h
    rw [lk_neg (fun e => h (.inl e.symm)), ih (fun z => h (.inr z))]
theorem lk_mem {t : Tm} {k : Int} {q : Rat} (h : lk t k = some q) : (k, q) ∈ t := by
  induction t with
  | nil => cases h
  | cons x t ih =>
    by_cases e : x.1 = k
    · rw [lk_pos e] at h
      have : x.2 = q := Option.some.inj h
      rw [← e, ← this]
      exact List.mem_cons_self
    · rw [lk_neg e] at h
      exact List.mem_cons_of_mem _ (ih h)
theorem lk_of_mem {t : Tm} (h : KeysOk t) {x : Int × Rat} (hx : x ∈ t) : lk t x.1 = some x.2 := by
  induction t with
  | nil => cases hx
  | cons y t ih =>
    unfold KeysOk at h
    rw [List.map_cons, List.nodup_cons] at h
    rcases List.mem_cons.mp hx with z | z
    · subst z
      exact lk_pos rfl
    · have ne : ¬ y.1 = x.1 := fun e => h.1 (by rw [e]; exact List.mem_map_of_mem z)
      rw [lk_neg ne]
      exact ih h.2 z
theorem co_lk {t : Tm} (h : KeysOk t) (k : Int) : (ofT t).co k = (lk t k).getD 0 := by
  induction t with
  | nil => rfl
  | cons x t ih =>
    unfold KeysOk at h
    rw [List.map_cons, List.nodup_cons] at h
    rw [co_ofT_cons, ih h.2]
    by_cases e : x.1 = k
    · rw [if_pos e, lk_pos e, lk_none_of (by rw [← e]; exact h.1)]
      simp
      grind
    · rw [if_neg e, lk_neg e]
      grind
/-- the entries of the dict are those of t -/
def LotIs (K : PySem.W.Frag) (H : Hp) : List (Key × V) → Tm → Prop := Paired fun kv x => kv.1 = Sum.inl x.1 ∧ Dp K H kv.2 (ratD x.2)
theorem LotIs.mono {K : PySem.W.Frag} {H H' : Hp} (e : Same H H') {kvs : List (Key × V)} {t : Tm} (h : LotIs K H kvs t) : LotIs K H' kvs t := Paired.mapP h fun _ _ q => ⟨q.1, dp_mono e _ _ q.2⟩
theorem LotIs.keep {K : PySem.W.Frag} {H H' : Hp} (e : Keep H H') {kvs : List (Key × V)} {t : Tm} (h : LotIs K H kvs t) : LotIs K H' kvs t := Paired.mapP h fun _ _ q => ⟨q.1, dp_keep e _ _ rfl q.2⟩
theorem LotIs.length {K : PySem.W.Frag} {H : Hp} {kvs : List (Key × V)} {t : Tm} (h : LotIs K H kvs t) : kvs.length = t.length := Paired.length h
theorem LotIs.val {K : PySem.W.Frag} {H : Hp} {kvs : List (Key × V)} {t : Tm} (h : LotIs K H kvs t) (k : Int) : (lk t k = none ∧ valV kvs (Sum.inl k) = none) ∨ ∃ q v, lk t k = some q ∧ valV kvs (Sum.inl k) = some v ∧ Dp K H v (ratD q) := by
  unfold LotIs at h
  induction h with
  | nil => exact .inl ⟨rfl, rfl⟩
  | @cons kv x kvs t a _ ih =>
    by_cases e : x.1 = k
    · refine .inr ⟨x.2, kv.2, lk_pos e, valV_pos (by rw [a.1, e]), a.2⟩
    · rw [lk_neg e, valV_neg (fun z => e (by rw [a.1] at z; exact Sum.inl.inj z))]
      exact ih
theorem LotIs.put {K : PySem.W.Frag} {H : Hp} {kvs : List (Key × V)} {t : Tm} (h : LotIs K H kvs t) {k : Int} {v : V} {q : Rat} (hv : Dp K H v (ratD q)) : LotIs K H (putK kvs (Sum.inl k) v) (putT t k q) := by
  have key : (kvs.any fun kv => decide (kv.1 = Sum.inl k)) = (lk t k).isSome := by
    rw [valV_any]
    rcases h.val k with ⟨h1, h2⟩ | ⟨_, _, h1, h2, _⟩ <;> rw [h1, h2] <;> rfl
  unfold putK putT
  rw [key]
  by_cases e : (lk t k).isSome = true
  · rw [if_pos e, if_pos e]
    unfold LotIs at h ⊢
    clear key e
    induction h with
    | nil => exact .nil
    | @cons kv x kvs t a _ ih =>
      rw [List.map_cons, List.map_cons]
      refine .cons ?_ ih
      by_cases z : x.1 = k
      · rw [if_pos z, if_pos (by rw [a.1, z])]
        exact ⟨by rw [a.1, z], hv⟩
      · rw [if_neg z, if_neg (fun y => z (by rw [a.1] at y; exact Sum.inl.inj y))]
        exact a
  · rw [if_neg e, if_neg e]
    unfold LotIs at h ⊢
    clear key e
    induction h with
    | nil => exact .cons ⟨rfl, hv⟩ .nil
    | cons a _ ih => exact .cons a ih
theorem keys_put {t : Tm} {k : Int} {q : Rat} (h : KeysOk t) : KeysOk (putT t k q) := by
  unfold putT
  split
  · have : (t.map fun x => if x.1 = k then (k, q) else x).map (·.1) = t.map (·.1) := by
      rw [List.map_map]
      apply List.map_congr_left
      intro x _
      show (if x.1 = k then (k, q) else x).1 = x.1
      split
      · rename_i e
        exact e.symm
      · rfl
    unfold KeysOk
    rw [this]
    exact h
  · rename_i e
    unfold KeysOk
    rw [List.map_append]
    refine List.nodup_append.mpr ⟨h, by simp, fun a ha b hb => ?_⟩
    have : b = k := by simpa using hb
    subst this
    intro z
    subst z
    obtain ⟨x, hx, hxe⟩ := List.mem_map.mp ha
    have hxe : x.1 = a := hxe
    rw [← hxe, lk_of_mem h hx] at e
    exact e rfl
theorem lk_put {t : Tm} (k j : Int) (q : Rat) : lk (putT t k q) j = if j = k then some q else lk t j := by
  unfold putT
  by_cases e : (lk t k).isSome = true
  · rw [if_pos e]
    by_cases z : j = k
    · subst z
      rw [if_pos rfl]
      induction t with
      | nil => cases e
      | cons x t ih =>
        rw [List.map_cons]
        by_cases y : x.1 = j
        · rw [if_pos y]
          exact lk_pos rfl
        · rw [if_neg y, lk_neg y]
          rw [lk_neg y] at e
          exact ih e
    · rw [if_neg z]
      clear e
      induction t with
      | nil => rfl
      | cons x t ih =>
        rw [List.map_cons]
        by_cases y : x.1 = k
        · rw [if_pos y, lk_neg (fun w => z w.symm), lk_neg (fun w => z (by rw [← w, y]))]
          exact ih
        · rw [if_neg y]
          by_cases w : x.1 = j
          · rw [lk_pos w, lk_pos w]
          · rw [lk_neg w, lk_neg w]
            exact ih
  · rw [if_neg e]
    have en : lk t k = none := by
      cases q : lk t k with
      | none => rfl
      | some _ => rw [q] at e; exact absurd rfl e
    clear e
    induction t with
    | nil =>
      by_cases z : j = k
      · rw [if_pos z]
        exact lk_pos z.symm
      · rw [if_neg z]
        exact lk_neg (fun w => z w.symm)
    | cons x t ih =>
      have y : ¬ x.1 = k := fun w => by
        rw [lk_pos w] at en
        cases en
      rw [lk_neg y] at en
      rw [List.cons_append]
      by_cases w : x.1 = j
      · rw [lk_pos w, lk_pos w, if_neg (fun z => y (by rw [w, z]))]
      · rw [lk_neg w, lk_neg w]
        exact ih en
theorem ofT_put {t : Tm} (h : KeysOk t) (k : Int) (q : Rat) : ofT (putT t k q) = ofT t + mono k (q - (ofT t).co k) := L.eq_of_co fun j => by
  rw [co_add, co_mono, co_lk (keys_put h), co_lk h, co_lk h, lk_put]
  by_cases e : j = k
  · subst e
    rw [if_pos rfl, if_pos rfl]
    simp
    grind
  · rw [if_neg e, if_neg (fun z => e z.symm)]
    grind
/-- no number is nought -/
def Clr (t : Tm) : Prop := ∀ x ∈ t, x.2 ≠ 0
structure LotOk (t : Tm) (p : L) : Prop where
  keys : KeysOk t
  clr : Clr t
  eq : ofT t = p
theorem LotOk.mem {t : Tm} {p : L} (h : LotOk t p) {k : Int} {q : Rat} : (k, q) ∈ t ↔ p.co k = q ∧ q ≠ 0 := by
  rw [← h.eq, co_lk h.keys]
  constructor
  · intro hm
    have := lk_of_mem h.keys hm
    simp only at this
    rw [this]
    exact ⟨rfl, h.clr _ hm⟩
  · rintro ⟨h1, h2⟩
    cases e : lk t k with
    | none =>
      rw [e] at h1
      exact absurd h1.symm h2
    | some z =>
      rw [e] at h1
      have h1 : z = q := h1
      rw [← h1]
      exact lk_mem e
theorem LotOk.nil_iff {t : Tm} {p : L} (h : LotOk t p) : t = [] ↔ p = 0 := by
  constructor
  · intro e
    rw [← h.eq, e]
    rfl
  · intro e
    cases t with
    | nil => rfl
    | cons x t =>
      have := (h.mem (k := x.1) (q := x.2)).mp List.mem_cons_self
      rw [e, co_zero] at this
      exact absurd this.1.symm this.2
theorem exists_lot (p : L) : ∃ t, LotOk t p := by
  obtain ⟨a, b, h⟩ := p.fin_in
  refine ⟨((List.range (b - a).toNat).map fun i : Nat => (a + (i : Int), p.co (a + (i : Int)))).filter fun x => decide (x.2 ≠ 0), ?_, ?_, ?_⟩
  · unfold KeysOk
    have nd : (((List.range (b - a).toNat).map fun i : Nat => (a + (i : Int), p.co (a + (i : Int)))).map (·.1)).Nodup := by
      rw [List.map_map]
      refine List.pairwise_map.mpr (List.Pairwise.imp (fun {i j} h => ?_) (List.nodup_range (n := (b - a).toNat)))
      show ¬ (a + (i : Int) = a + (j : Int))
      omega
    exact nd.sublist (List.Sublist.map _ List.filter_sublist)
  · intro x hx
    exact of_decide_eq_true (List.mem_filter.mp hx).2
  · refine L.eq_of_co fun k => ?_
    have key : ∀ n : Nat, (ofT (((List.range n).map fun i : Nat => (a + (i : Int), p.co (a + (i : Int)))).filter fun x => decide (x.2 ≠ 0))).co k = if a ≤ k ∧ k < a + n then p.co k else 0 := by
      intro n
      induction n with
      | zero => rw [if_neg (by omega)]; rfl
      | succ n ih =>
        rw [List.range_succ, List.map_append, List.filter_append, ofT_app, co_add, ih]
        have one : (ofT ((List.map (fun i : Nat => (a + (i : Int), p.co (a + (i : Int)))) [n]).filter fun x => decide (x.2 ≠ 0))).co k = if a + (n : Int) = k then p.co k else 0 := by
          by_cases e : p.co (a + (n : Int)) = 0
          · rw [List.map_cons, List.filter_cons_of_neg (by simp [e])]
            by_cases z : a + (n : Int) = k
            · rw [if_pos z, ← z, e]
              rfl
            · rw [if_neg z]
              rfl
          · rw [List.map_cons, List.filter_cons_of_pos (by simp [e]), List.map_nil, List.filter_nil, co_ofT_cons, co_ofT_nil]
            by_cases z : a + (n : Int) = k
            · rw [if_pos z, if_pos z]
              show p.co (a + (n : Int)) + 0 = _
              rw [z]
              grind
            · rw [if_neg z, if_neg z]
              grind
        rw [one]
        by_cases z : a + (n : Int) = k
        · rw [if_pos z, if_neg (by omega), if_pos (by omega)]
          grind
        · rw [if_neg z]
          by_cases y : a ≤ k ∧ k < a + n
          · rw [if_pos y, if_pos (by omega)]
            grind
          · rw [if_neg y, if_neg (by omega)]
            grind
    rw [key]
    split
    · rfl
    · rename_i z
      apply Classical.byContradiction
      intro y
      have := h k (fun w => y (by rw [w]))
      omega
def dLotT (K : PySem.W.Frag) (t : Tm) : DP := ⟨fun v H => ∃ a kvs, v = .ref a ∧ H a = some (.dK kvs) ∧ LotIs K H kvs t, fun e h => by
  obtain ⟨a, kvs, h1, h2, h3⟩ := h
  exact ⟨a, kvs, h1, e _ _ h2, h3.mono e⟩⟩
/-- .. to be read -/
def dLotR (K : PySem.W.Frag) (t : Tm) : DP := ⟨fun v H => ∃ a kvs, v = .ref a ∧ Rd H a (.dK kvs) ∧ LotIs K H kvs t, fun e h => by
  obtain ⟨a, kvs, h1, h2, h3⟩ := h
  refine ⟨a, kvs, h1, ?_, h3.mono e⟩
  rcases h2 with q | ⟨o, q⟩
  · exact .inl (e _ _ q)
  · exact .inr ⟨o, e _ _ q⟩⟩
def dLot (K : PySem.W.Frag) (p : L) : DP := dEx (fun t => LotOk t p) (dLotT K)
theorem stiff_lotT {K : PySem.W.Frag} {t : Tm} : (dLotT K t).Stiff := fun v H H' e h => by
  obtain ⟨a, kvs, h1, h2, h3⟩ := h
  exact ⟨a, kvs, h1, e _ _ h2 (fun _ z => by cases z), h3.keep e⟩
theorem stiff_lotR {K : PySem.W.Frag} {t : Tm} : (dLotR K t).Stiff := fun v H H' e h => by
  obtain ⟨a, kvs, h1, h2, h3⟩ := h
  refine ⟨a, kvs, h1, ?_, h3.keep e⟩
  rcases h2 with q | ⟨o, q⟩
  · exact .inl (e _ _ q fun _ z => nomatch z)
  · exact .inr ⟨o, e _ _ q fun _ z => nomatch z⟩
theorem stiff_lot {K : PySem.W.Frag} {p : L} : (dLot K p).Stiff := stiff_ex fun _ _ => stiff_lotT
theorem lot_read {K : PySem.W.Frag} {t : Tm} : DP.imp (dLotT K t) (dLotR K t) := fun v H h => by
  obtain ⟨a, kvs, h1, h2, h3⟩ := h
  exact ⟨a, kvs, h1, .inl h2, h3⟩
theorem ed_dget {K : PySem.W.Frag} {ds : List (Option DP)} {td ty : TE} {t : Tm} {k : Int} {q : Rat} (h1 : EvD td ds (dLotR K t)) (h2 : EvD ty ds (dV (.int k))) (h : lk t k = some q) : EvD (tDGet td ty) ds (dD K (ratD q)) := fun σ H s Q qq =>
  h1 σ H s _ fun v H1 e1 hv => h2 σ H1 (s.mono e1) _ fun y H2 e2 hy => by
    obtain ⟨a, kvs, rfl, hr, hl⟩ := (dLotR K t).mono e2 hv
    cases hy
    rcases hl.val k with ⟨z, _⟩ | ⟨q', w, z1, z2, z3⟩
    · rw [h] at z
      cases z
    · rw [h] at z1
      have z1 : q = q' := Option.some.inj z1
      subst z1
      exact ⟨a, w, rfl, .inl ⟨kvs, .inl k, hr, rfl, z2.symm⟩, qq w H2 (e1.trans e2) z3⟩
theorem ed_dget2 {K : PySem.W.Frag} {ds : List (Option DP)} {td ty tx : TE} {t : Tm} {k : Int} (h1 : EvD td ds (dLotR K t)) (h2 : EvD ty ds (dV (.int k))) (h3 : EvD tx ds (dD K (ratD 0))) : EvD (tDGet2 td ty tx) ds (dD K (ratD ((lk t k).getD 0))) := fun σ H s Q qq =>
  h1 σ H s _ fun v H1 e1 hv => by
    obtain ⟨a, kvs, rfl, hr, hl⟩ := hv
    refine ⟨a, rfl, .inl ⟨kvs, hr⟩, h2 σ H1 (s.mono e1) _ fun y H2 e2 hy => h3 σ H2 ((s.mono e1).mono e2) _ fun x H3 e3 hx => ?_⟩
    cases hy
    have hr3 : Rd H3 a (.dK kvs) := by
      rcases hr with z | ⟨o, z⟩
      · exact .inl (e3 _ _ (e2 _ _ z))
      · exact .inr ⟨o, e3 _ _ (e2 _ _ z)⟩
    rcases hl.val k with ⟨z1, z2⟩ | ⟨q', w, z1, z2, z3⟩
    · refine ⟨none, .inl ⟨kvs, .inl k, hr3, rfl, z2.symm⟩, ?_⟩
      rw [z1] at qq
      exact qq x H3 ((e1.trans e2).trans e3) hx
    · refine ⟨some w, .inl ⟨kvs, .inl k, hr3, rfl, z2.symm⟩, ?_⟩
      rw [z1] at qq
      exact qq w H3 ((e1.trans e2).trans e3) (dp_mono (e2.trans e3) _ _ z3)
end K65

/-! K65G: further rules: loops, built-ins; numbers -/
namespace K65
open PySem PySem.Spec PyProof.Rows L2

/-! ### statements that go on -/
def StD (ts : TS) (ds ds' : List (Option DP)) : Prop := ∀ (D : Ends) (σ : L2.St) (H : Hp), Sl σ ds H → (∀ σ' H', Same H H' → Sl σ' ds' H' → D.nx σ' H') → ts D σ H
/-- some descriptions forgotten -/
def Fgt (a b : List (Option DP)) : Prop := b.length = a.length ∧ ∀ (i : Nat) (d : DP), b[i]? = some (some d) → a[i]? = some (some d)
theorem Sl.fgt {σ : L2.St} {a b : List (Option DP)} {H : Hp} (h : Sl σ a H) (f : Fgt a b) : Sl σ b H := h.imp f.1 fun i d hd => ⟨d, f.2 i d hd, imp_refl⟩
theorem fgt_refl {a : List (Option DP)} : Fgt a a := ⟨rfl, fun _ _ h => h⟩
theorem fgt_set {a : List (Option DP)} {i : Nat} : Fgt a (a.set i none) := ⟨List.length_set, fun j d h => by
  rw [List.getElem?_set] at h
  split at h
  · split at h <;> cases h
  · exact h⟩
theorem Fgt.trans {a b c : List (Option DP)} (h : Fgt a b) (h2 : Fgt b c) : Fgt a c := ⟨h2.1.trans h.1, fun i d q => h.2 i d (h2.2 i d q)⟩
theorem fgt_nil : Fgt [] [] := fgt_refl
theorem fgt_keep {d : Option DP} {a b : List (Option DP)} (h : Fgt a b) : Fgt (d :: a) (d :: b) := ⟨by simp [h.1], fun i e q => by
  cases i with
  | zero => exact q
  | succ i => exact h.2 i e (by simpa using q)⟩
theorem fgt_drop {d : Option DP} {a b : List (Option DP)} (h : Fgt a b) : Fgt (d :: a) (none :: b) := ⟨by simp [h.1], fun i e q => by
  cases i with
  | zero => cases q
  | succ i => exact h.2 i e (by simpa using q)⟩
section
variable {K : PySem.W.Frag} {ds ds1 ds2 ds' : List (Option DP)} {te : TE} {tt : TT} {ta : TA} {t u : TS} {d d1 d2 : DP} {dl : List DP} {b1 : Bool}
theorem st_seq (h : StD t ds ds1) (k : StD u ds1 ds2) : StD (tSeq t u) ds ds2 := fun D σ H s q => h { D with nx := u D } σ H s fun σ1 H1 e1 s1 => k D σ1 H1 s1 fun σ2 H2 e2 s2 => q σ2 H2 (e1.trans e2) s2
theorem st_weak (h : StD t ds ds1) (f : Fgt ds1 ds2) : StD t ds ds2 := fun D σ H s q => h D σ H s fun σ1 H1 e1 s1 => q σ1 H1 e1 (s1.fgt f)
theorem st_next : StD tNext ds ds := fun D σ H s q => q σ H (Same.refl H) s
theorem st_asg {i : Nat} (h : EvD te ds d1) : StD (tAsg te (gName i)) ds (ds.set i (some d1)) := fun D σ H s q =>
  h σ H s _ fun v H1 e1 hv => q _ H1 e1 ((s.mono e1).set i hv)
theorem st_par {i j : Nat} (h : EvA ta ds [d1, d2]) : StD (tPar i j ta) ds ((ds.set i (some d1)).set j (some d2)) := fun D σ H s q =>
  h σ H s _ fun vs H1 e1 hv => by
    cases hv with
    | @cons _ _ v _ _ h1 hr =>
      cases hr with
      | @cons _ _ w _ _ h2 hr2 =>
        cases hr2
        exact ⟨v, w, rfl, q _ H1 e1 (((s.mono e1).set i h1).set j h2)⟩
theorem st_aug {i : Nat} {a b : Int} {tip : TIp} (hi : ds[i]? = some (some (dV (.int a)))) (h : EvD te ds (dV (.int b))) {r : Int} (ht : ∀ H (Q : VK), Q (.int r) H → tip (.int a) (.int b) H Q) : StD (tAug i te tip) ds (ds.set i (some (dV (.int r)))) := fun D σ H s q => by
  obtain ⟨v, h1, h2⟩ := s.at' i _ hi
  cases h2
  exact ⟨_, h1, h σ H s _ fun w H1 e1 hw => by
    cases hw
    exact ht H1 _ (q _ H1 e1 ((s.mono e1).set i rfl))⟩
theorem st_ite (h : EvB tt ds b1) (h1 : b1 = true → StD t ds ds') (h2 : b1 = false → StD u ds ds') : StD (tIfS tt t u) ds ds' := fun D σ H s q => h σ H s _ fun H1 e1 => by
  cases b1 with
  | true =>
    show t D σ H1
    exact h1 rfl D σ H1 (s.mono e1) fun σ2 H2 e2 s2 => q σ2 H2 (e1.trans e2) s2
  | false =>
    show u D σ H1
    exact h2 rfl D σ H1 (s.mono e1) fun σ2 H2 e2 s2 => q σ2 H2 (e1.trans e2) s2
theorem b_st (h : StD t ds ds1) (k : BdD u ds1 d) : BdD (tSeq t u) ds d := fun D σ H s q => h { D with nx := u D } σ H s fun σ1 H1 e1 s1 => k D σ1 H1 s1 fun v H2 e2 hv => q v H2 (e1.trans e2) hv
theorem BdD.imp {d' : DP} (h : BdD t ds d) (i : DP.imp d d') : BdD t ds d' := fun D σ H s q => h D σ H s fun v H1 e1 hv => q v H1 e1 (i v H1 hv)
theorem BdD.fgt (h : BdD t ds1 d) (f : Fgt ds ds1) : BdD t ds d := fun D σ H s q => h D σ H (s.fgt f) q
/-- while -/
theorem st_while {α : Type} {I : α → List (Option DP)} {ok : α → Prop} (meas : α → Nat) (c : α → Bool) (a0 : α) (h0 : ok a0) (hds : ds = I a0) (hc : ∀ a, ok a → EvB tt (I a) (c a))
    (hb : ∀ a, ok a → c a = true → ∃ a', ok a' ∧ meas a' < meas a ∧ StD t (I a) (I a')) (k : ∀ a, ok a → c a = false → Fgt (I a) ds') : StD (tWhile tt t) ds ds' := fun D σ H s q => by
  refine ⟨fun m σ1 H1 => ∃ a, ok a ∧ m = meas a ∧ Same H H1 ∧ Sl σ1 (I a) H1, ⟨meas a0, a0, h0, rfl, Same.refl H, hds ▸ s⟩, ?_⟩
  rintro m σ1 H1 ⟨a, ha, rfl, e1, s1⟩
  refine hc a ha σ1 H1 s1 _ fun H2 e2 => ?_
  cases hcc : c a with
  | true =>
    rw [if_pos rfl]
    obtain ⟨a', ha', hm, hst⟩ := hb a ha hcc
    refine ⟨fun σ' H' => Same H H' ∧ Sl σ' (I a') H', fun σ' H' hh => ⟨meas a', hm, a', ha', rfl, hh⟩, ?_⟩
    exact hst _ σ1 H2 (s1.mono e2) fun σ3 H3 e3 s3 => ⟨(e1.trans e2).trans e3, s3⟩
  | false =>
    rw [if_neg Bool.false_ne_true]
    exact q σ1 H2 (e1.trans e2) ((s1.mono e2).fgt (k a ha hcc))
/-- .. then the rest, which knows how the loop ended -/
theorem b_while {α : Type} {I : α → List (Option DP)} {ok : α → Prop} (meas : α → Nat) (c : α → Bool) (a0 : α) (h0 : ok a0) (hds : ds = I a0) (hc : ∀ a, ok a → EvB tt (I a) (c a))
    (hb : ∀ a, ok a → c a = true → ∃ a', ok a' ∧ meas a' < meas a ∧ StD t (I a) (I a')) (k : ∀ a, ok a → c a = false → BdD u (I a) d) : BdD (tSeq (tWhile tt t) u) ds d := fun D σ H s q => by
  refine ⟨fun m σ1 H1 => ∃ a, ok a ∧ m = meas a ∧ Same H H1 ∧ Sl σ1 (I a) H1, ⟨meas a0, a0, h0, rfl, Same.refl H, hds ▸ s⟩, ?_⟩
  rintro m σ1 H1 ⟨a, ha, rfl, e1, s1⟩
  refine hc a ha σ1 H1 s1 _ fun H2 e2 => ?_
  cases hcc : c a with
  | true =>
    rw [if_pos rfl]
    obtain ⟨a', ha', hm, hst⟩ := hb a ha hcc
    refine ⟨fun σ' H' => Same H H' ∧ Sl σ' (I a') H', fun σ' H' hh => ⟨meas a', hm, a', ha', rfl, hh⟩, ?_⟩
    exact hst _ σ1 H2 (s1.mono e2) fun σ3 H3 e3 s3 => ⟨(e1.trans e2).trans e3, s3⟩
  | false =>
    rw [if_neg Bool.false_ne_true]
    exact k a ha hcc D σ1 H2 (s1.mono e2) fun v H3 e3 hv => q v H3 ((e1.trans e2).trans e3) hv
/-- for x in a tuple -/
theorem st_forT {i : Nat} {dsj : Nat → List (Option DP)} (h : EvD te ds (dTup K dl)) (h0 : dsj 0 = ds) (hs : ∀ j d, dl[j]? = some d → StD t ((dsj j).set i (some d)) (dsj (j + 1))) : StD (tFor (iTup K te) (gName i) t) ds (dsj dl.length) := fun D σ H s q =>
  h σ H s _ fun v H1 e1 hv => by
    obtain ⟨a, us, rfl, hS, ha⟩ := hv
    refine ⟨a, rfl, ⟨us, hS⟩, ?_⟩
    have hl : us.length = dl.length := ha.length
    refine for_it (walk_tup (K := K) (a := a) (xs := us)) (fun j σ2 H2 => Same H1 H2 ∧ Sl σ2 (dsj j) H2) ⟨Same.refl H1, h0 ▸ s.mono e1⟩ (fun j σ2 H2 _ hp => same_t hp.1 hS) (fun j x σ2 H2 H3 hj hp hy => ?_) (fun σ2 H2 hp => ?_)
    · obtain ⟨rfl, hx⟩ := hy
      have ej : dl[j]? = some dl[j] := List.getElem?_eq_getElem (by omega)
      obtain ⟨w, h1, h2⟩ := (ha.mono hp.1).get ej
      rw [hx] at h1
      have h1 : x = w := Option.some.inj h1
      subst h1
      exact hs j _ ej _ _ _ (hp.2.set i h2) fun σ3 H4 e4 s4 => ⟨hp.1.trans e4, s4⟩
    · rw [hl] at hp
      exact q σ2 H2 (e1.trans hp.1) hp.2
end

/-! ### built-ins -/
section
variable {K : PySem.W.Frag} {dl : List DP} {ds : List (Option DP)} {te : TE}
theorem rc_lenL : RcP (fun xs H Q => ∃ x n, xs = [x] ∧ LenV K x H n ∧ Q (.int n) H) [dLst K dl] (dV (.int dl.length)) := fun vs H h Q q => by
  cases h with
  | cons h1 h2 =>
    cases h2
    obtain ⟨a, us, rfl, hS, ha⟩ := h1
    exact ⟨_, dl.length, rfl, .inl ⟨us, hS, ha.length.symm⟩, q _ H (Same.refl H) rfl⟩
theorem rc_lenT : RcP (fun xs H Q => ∃ x n, xs = [x] ∧ LenV K x H n ∧ Q (.int n) H) [dTup K dl] (dV (.int dl.length)) := fun vs H h Q q => by
  cases h with
  | cons h1 h2 =>
    cases h2
    obtain ⟨a, us, rfl, hS, ha⟩ := h1
    exact ⟨_, dl.length, rfl, .inr ⟨us, hS, ha.length.symm⟩, q _ H (Same.refl H) rfl⟩
theorem rc_lenD {xs : List PyData} : RcP (fun xs H Q => ∃ x n, xs = [x] ∧ LenV K x H n ∧ Q (.int n) H) [dD K (.tuple xs)] (dV (.int xs.length)) := fun vs H h Q q => by
  cases h with
  | cons h1 h2 =>
    cases h2
    have := rc_lenT (K := K) (dl := xs.map (dD K)) _ H (.cons (imp_tup' _ _ h1) .nil) Q
    rw [List.length_map] at this
    exact this q
theorem rc_min2 {i j : Int} : RcP (fun xs H Q => ∃ i j, xs = [.int i, .int j] ∧ Q (.int (if j < i then j else i)) H) [dV (.int i), dV (.int j)] (dV (.int (min i j))) := fun vs H h Q q => by
  cases h with
  | cons h1 h2 =>
    cases h2 with
    | cons h3 h4 =>
      cases h4
      cases h1
      cases h3
      refine ⟨i, j, rfl, q _ H (Same.refl H) ?_⟩
      show V.int _ = V.int _
      congr 1
      split <;> omega
theorem rc_max2 {i j : Int} : RcP (fun xs H Q => ∃ i j, xs = [.int i, .int j] ∧ Q (.int (if j > i then j else i)) H) [dV (.int i), dV (.int j)] (dV (.int (max i j))) := fun vs H h Q q => by
  cases h with
  | cons h1 h2 =>
    cases h2 with
    | cons h3 h4 =>
      cases h4
      cases h1
      cases h3
      refine ⟨i, j, rfl, q _ H (Same.refl H) ?_⟩
      show V.int _ = V.int _
      congr 1
      split <;> omega
theorem rc_tuple : RcP (fun xs H Q => ∃ p ys, xs = [.ref p] ∧ ((SqL K H p ys ∧ ∀ l, H l = none → Q (.ref l) (upd H l (.tup ys))) ∨ (SqT K H p ys ∧ Q (.ref p) H))) [dLst K dl] (dTup K dl) := fun vs H h Q q => by
  cases h with
  | cons h1 h2 =>
    cases h2
    obtain ⟨a, us, rfl, hS, ha⟩ := h1
    exact ⟨a, us, rfl, .inl ⟨hS, fun l hl => q _ _ (same_new hl) ⟨l, us, rfl, SqT.of upd_same, ha.mono (same_new hl)⟩⟩⟩
theorem rc_list : RcP (fun xs H Q => ∃ p ys, xs = [.ref p] ∧ (SqL K H p ys ∨ SqT K H p ys) ∧ ∀ l, H l = none → Q (.ref l) (upd H l (.lst ys))) [dTup K dl] (dLst K dl) := fun vs H h Q q => by
  cases h with
  | cons h1 h2 =>
    cases h2
    obtain ⟨a, us, rfl, hS, ha⟩ := h1
    exact ⟨a, us, rfl, .inr hS, fun l hl => q _ _ (same_new hl) ⟨l, us, rfl, SqL.of upd_same, ha.mono (same_new hl)⟩⟩
theorem rc_abs {i : Int} : RcP (fun xs H Q => ∃ i, xs = [.int i] ∧ Q (.int (if i < 0 then -i else i)) H) [dV (.int i)] (dV (.int (i.natAbs : Int))) := fun vs H h Q q => by
  cases h with
  | cons h1 h2 =>
    cases h2
    cases h1
    refine ⟨i, rfl, q _ H (Same.refl H) ?_⟩
    show V.int _ = V.int _
    congr 1
    split <;> omega
theorem rc_int {i : Int} : RcP (fun xs H Q => (∃ i, xs = [.int i] ∧ Q (.int i) H) ∨ ∃ k, xs = [.bl k] ∧ Q (.int (if k then 1 else 0)) H) [dV (.int i)] (dV (.int i)) := fun vs H h Q q => by
  cases h with
  | cons h1 h2 =>
    cases h2
    cases h1
    exact .inl ⟨i, rfl, q _ H (Same.refl H) rfl⟩
theorem rc_gcd {i j : Int} : RcP rGcd [dV (.int i), dV (.int j)] (dV (.int ((Nat.gcd i.natAbs j.natAbs : Nat) : Int))) := fun vs H h Q q => by
  cases h with
  | cons h1 h2 =>
    cases h2 with
    | cons h3 h4 =>
      cases h4
      cases h1
      cases h3
      exact ⟨i, j, rfl, q _ H (Same.refl H) rfl⟩
theorem allBl {bs : List Bool} {vs : List V} {H : Hp} (h : AllIs (bs.map fun b => dV (.bl b)) vs H) : vs = bs.map V.bl := by
  induction bs generalizing vs with
  | nil => cases h; rfl
  | cons b bs ih =>
    cases h with
    | cons h1 h2 =>
      cases h1
      rw [ih h2]
      rfl
theorem rc_all {bs : List Bool} : RcP (rAll K) [dLst K (bs.map fun b => dV (.bl b))] (dV (.bl (bs.all id))) := fun vs H h Q q => by
  cases h with
  | cons h1 h2 =>
    cases h2
    obtain ⟨a, us, rfl, hS, ha⟩ := h1
    rw [allBl ha] at hS
    exact ⟨a, bs, rfl, hS, q _ H (Same.refl H) rfl⟩
theorem un_neg_d {i : Int} (h : EvD te ds (dV (.int i))) : EvD (tUn (rU fun i => .int (-i)) te) ds (dV (.int (-i))) := fun σ H s Q q => h σ H s _ fun v H1 e1 hv => by
  cases hv
  exact ⟨i, rfl, q _ H1 e1 rfl⟩
/-- a <= b < c -/
theorem eb_chain {ta tb tc : TE} {a b c : Int} {p p' : Int → Int → Bool} (ha : EvD ta ds (dV (.int a))) (hb : EvD tb ds (dV (.int b))) (hc : EvD tc ds (dV (.int c))) : EvB (tTest (tChain (rI0 fun i j => .bl (p i j)) (rI0 fun i j => .bl (p' i j)) ta tb tc)) ds (p a b && p' b c) := fun σ H s Q q =>
  ha σ H s _ fun x H1 e1 hx => hb σ H1 (s.mono e1) _ fun y H2 e2 hy => by
    cases hx
    cases hy
    refine ⟨a, b, rfl, rfl, p a b, rfl, ?_⟩
    cases hp : p a b with
    | true =>
      rw [hp, Bool.true_and] at q
      rw [if_pos rfl]
      refine hc σ H2 ((s.mono e1).mono e2) _ fun z H3 e3 hz => ?_
      cases hz
      exact ⟨b, c, rfl, rfl, p' b c, rfl, q H3 ((e1.trans e2).trans e3)⟩
    | false =>
      rw [hp, Bool.false_and] at q
      rw [if_neg Bool.false_ne_true]
      exact ⟨false, rfl, q H2 (e1.trans e2)⟩
end

/-! ### fractions -/
theorem natAbs_gcd_pos {a b : Int} (hb : b ≠ 0) : 0 < (Nat.gcd a.natAbs b.natAbs : Nat) := Nat.pos_of_ne_zero fun e => by
  have := Nat.eq_zero_of_gcd_eq_zero_right e
  omega
theorem gcd_comm' (a b : Int) : (Nat.gcd a.natAbs b.natAbs : Nat) = b.gcd a := by
  rw [Nat.gcd_comm]
  rfl
/-- what both ratios compute -/
theorem ratD_divInt {a b : Int} (hb : b ≠ 0) : ratD (Rat.divInt a b) = .tuple [.int (a.fdiv (if b > 0 then ((Nat.gcd a.natAbs b.natAbs : Nat) : Int) else -((Nat.gcd a.natAbs b.natAbs : Nat) : Int))), .int (b.fdiv (if b > 0 then ((Nat.gcd a.natAbs b.natAbs : Nat) : Int) else -((Nat.gcd a.natAbs b.natAbs : Nat) : Int)))] := by
  have hg := natAbs_gcd_pos (a := a) hb
  have ga : ((Nat.gcd a.natAbs b.natAbs : Nat) : Int) ∣ a := Int.ofNat_dvd_left.mpr (Nat.gcd_dvd_left _ _)
  have gb : ((Nat.gcd a.natAbs b.natAbs : Nat) : Int) ∣ b := Int.ofNat_dvd_left.mpr (Nat.gcd_dvd_right _ _)
  unfold ratD
  rw [Rat.num_divInt, Rat.den_divInt, if_neg hb, ← gcd_comm' a b]
  generalize hG : Nat.gcd a.natAbs b.natAbs = g at *
  by_cases e : b > 0
  · rw [if_pos e, Int.fdiv_eq_ediv_of_dvd ga, Int.fdiv_eq_ediv_of_dvd gb, Int.sign_eq_one_of_pos e, Int.one_mul, Int.natCast_ediv, Int.natAbs_of_nonneg (by omega)]
  · have e2 : b < 0 := by omega
    rw [if_neg e, Int.fdiv_eq_ediv_of_dvd (Int.neg_dvd.mpr ga), Int.fdiv_eq_ediv_of_dvd (Int.neg_dvd.mpr gb), Int.sign_eq_neg_one_of_neg e2, Int.natCast_ediv, Int.ediv_neg, Int.ediv_neg]
    have h1 : (-1 * a) / (g : Int) = -(a / (g : Int)) := by
      rw [Int.neg_one_mul, Int.neg_ediv_of_dvd ga]
    have h2 : ((b.natAbs : Nat) : Int) / (g : Int) = -(b / (g : Int)) := by
      rw [← Int.neg_ediv_of_dvd gb]
      congr 1
      omega
    rw [h1, h2]
theorem rat_add (a b : Rat) : Rat.divInt (a.num * b.den + b.num * a.den) (a.den * b.den) = a + b := by
  have ha : (a.den : Int) ≠ 0 := by have := a.den_nz; omega
  have hb : (b.den : Int) ≠ 0 := by have := b.den_nz; omega
  rw [← Rat.divInt_add_divInt _ _ ha hb, Rat.num_divInt_den, Rat.num_divInt_den]
theorem rat_sub (a b : Rat) : Rat.divInt (a.num * b.den - b.num * a.den) (a.den * b.den) = a - b := by
  have ha : (a.den : Int) ≠ 0 := by have := a.den_nz; omega
  have hb : (b.den : Int) ≠ 0 := by have := b.den_nz; omega
  rw [← Rat.divInt_sub_divInt _ _ ha hb, Rat.num_divInt_den, Rat.num_divInt_den]
theorem rat_mul (a b : Rat) : Rat.divInt (a.num * b.num) (a.den * b.den) = a * b := by
  rw [← Rat.divInt_mul_divInt, Rat.num_divInt_den, Rat.num_divInt_den]
theorem rat_div (a b : Rat) : Rat.divInt (a.num * b.den) (a.den * b.num) = a / b := by
  rw [Rat.div_def, Rat.inv_def, ← Rat.divInt_mul_divInt, Rat.num_divInt_den]
theorem rat_one_sum {a b : Rat} (ha : a.den = 1) (hb : b.den = 1) : ratD (a + b) = .tuple [.int (a.num + b.num), .int 1] := by
  have : a + b = Rat.divInt (a.num + b.num) 1 := by
    rw [← rat_add, ha, hb]
    simp
  rw [this, ratD_divInt (by decide)]
  simp
theorem rat_one_mul {a b : Rat} (ha : a.den = 1) (hb : b.den = 1) : ratD (a * b) = .tuple [.int (a.num * b.num), .int 1] := by
  have : a * b = Rat.divInt (a.num * b.num) 1 := by
    rw [← rat_mul, ha, hb]
    simp
  rw [this, ratD_divInt (by decide)]
  simp
theorem sm_mul {i j : Int} (hi : i.natAbs ≤ 2 ^ 6500) (hj : j.natAbs ≤ 2 ^ 6500) : (i * j).natAbs ≤ 2 ^ 13000 := by
  rw [Int.natAbs_mul, show (13000 : Nat) = 6500 + 6500 from rfl, Nat.pow_add]
  exact Nat.mul_le_mul hi hj
theorem lt13500 {n : Nat} (h : n ≤ 2 ^ 13000 + 2 ^ 13000) : n < 2 ^ 13500 := by
  have : 2 ^ 13000 + 2 ^ 13000 = 2 ^ 13001 := by rw [show (13001 : Nat) = 13000 + 1 from rfl, Nat.pow_succ]
  rw [this] at h
  exact Nat.lt_of_le_of_lt h (Nat.pow_lt_pow_right (by decide) (by decide))
theorem le_lt13500 {n : Nat} (h : n ≤ 2 ^ 6500) : n < 2 ^ 13500 := Nat.lt_of_le_of_lt h (Nat.pow_lt_pow_right (by decide) (by decide))
end K65

/-! K65I: the facts of the text; numbers -/
namespace K65
open PySem PySem.Spec PyProof.Rows L2

def topS (i : Nat) : Stmt := PySem.Challenge.pw_bandsplits_k65_whole_channels_of_two_row.main.body.getD i (.Pass ⟨0, 0, 0, 0⟩)
structure FnF (K : PySem.W.Frag) (mg : Str → Option Value) (x : Str) (i : Nat) (ps : List Str) : Prop where
  ex : ∃ f fd, C8.Def K mg x (topS i) f fd ∧ Binds K fd ps []
def zeroD : PyData := .tuple [.int 0, .int 1]
def oneD : PyData := .tuple [.int 1, .int 1]
def noughtD : PyData := .tuple [.int 0, .tuple []]
def unitD : PyData := .tuple [.int 0, .tuple [oneD]]
def nothingD : PyData := .tuple [noughtD, noughtD]
theorem zeroD_eq : zeroD = ratD 0 := rfl
theorem oneD_eq : oneD = ratD 1 := rfl
theorem noughtD_eq : noughtD = pD 0 := by
  unfold pD
  rw [rowOf_zero]
  rfl
theorem unitD_eq : unitD = pD 1 := by
  unfold pD
  rw [rowOf_one]
  rfl
theorem nothingD_eq : nothingD = pairD 0 0 := by
  unfold nothingD pairD
  rw [noughtD_eq]
structure Facts (K : PySem.W.Frag) (mg : Str → Option Value) : Prop where
  f_is_whole : FnF K mg "is_whole" 6 ["value"]
  f_are_wholes : FnF K mg "are_wholes" 7 ["value", "many"]
  f_divisor_of : FnF K mg "divisor_of" 8 ["numbers"]
  f_is_ratio : FnF K mg "is_ratio" 12 ["value"]
  f_ratio : FnF K mg "ratio" 13 ["top", "low"]
  f_plus : FnF K mg "plus" 14 ["one", "two"]
  f_minus : FnF K mg "minus" 15 ["one", "two"]
  f_times : FnF K mg "times" 16 ["one", "two"]
  f_over : FnF K mg "over" 17 ["one", "two"]
  f_row_by : FnF K mg "row_by" 21 ["start", "numbers"]
  f_end_of : FnF K mg "end_of" 22 ["row"]
  f_at_place : FnF K mg "at_place" 23 ["row", "place"]
  f_row_sum : FnF K mg "row_sum" 24 ["one", "two"]
  f_row_scaled : FnF K mg "row_scaled" 25 ["row", "number"]
  f_row_less : FnF K mg "row_less" 26 ["one", "two"]
  f_row_shift : FnF K mg "row_shift" 27 ["row", "places"]
  f_row_product : FnF K mg "row_product" 28 ["one", "two"]
  f_part_from : FnF K mg "part_from" 29 ["row", "first"]
  f_even_of : FnF K mg "even_of" 30 ["row"]
  f_odd_of : FnF K mg "odd_of" 31 ["row"]
  f_spread_out : FnF K mg "spread_out" 32 ["row"]
  f_weave : FnF K mg "weave" 33 ["even", "odd"]
  f_row_divided : FnF K mg "row_divided" 34 ["one", "two"]
  f_row_quotient : FnF K mg "row_quotient" 35 ["one", "two"]
  f_is_laid : FnF K mg "is_laid" 37 ["value"]
  f_check_row : FnF K mg "check_row" 38 ["value"]
  f_splitter_from : FnF K mg "splitter_from" 40 ["table"]
  f_check_channels : FnF K mg "check_channels" 42 ["value"]
  f_factors_for : FnF K mg "factors_for" 44 ["one", "two"]
  f_pair_determinant : FnF K mg "pair_determinant" 45 ["row", "other"]
  f_parts_of : FnF K mg "parts_of" 48 ["row"]
  f_table_row : FnF K mg "table_row" 49 ["channel", "parts"]
  f_splitter_by_rows : FnF K mg "splitter_by_rows" 50 ["rows"]
  f_row_by_both : FnF K mg "row_by_both" 51 ["channel", "other", "mine", "its"]
  f_lone_direction : FnF K mg "lone_direction" 52 ["mine", "its"]
  f_times_of : FnF K mg "times_of" 53 ["pair", "lone"]
  f_row_along : FnF K mg "row_along" 54 ["channel", "other", "mine", "its"]
  f_read_by : FnF K mg "read_by" 55 ["row", "channels", "other", "others"]
  f_splitter_read : FnF K mg "splitter_read" 56 ["row", "channels", "other", "others"]
  f__law_well : FnF K mg "_law_well" 58 ["_law_script", "_law_turn"]
  f__law_take : FnF K mg "_law_take" 59 ["_law_well_here", "_law_count"]
  f__law_pick : FnF K mg "_law_pick" 60 ["_law_well_here", "_law_some"]
  f__law_rounds : FnF K mg "_law_rounds" 61 ["_law_script"]
  f__law_common : FnF K mg "_law_common" 62 ["_law_one", "_law_two_here"]
  f__law_ratio : FnF K mg "_law_ratio" 63 ["_law_n", "_law_m"]
  f__law_sum : FnF K mg "_law_sum" 64 ["_law_a", "_law_b"]
  f__law_product : FnF K mg "_law_product" 65 ["_law_a", "_law_b"]
  f__law_over : FnF K mg "_law_over" 66 ["_law_a", "_law_b"]
  f__law_lot : FnF K mg "_law_lot" 67 ["_law_line_here"]
  f__law_cleared : FnF K mg "_law_cleared" 68 ["_law_lot_here"]
  f__law_line : FnF K mg "_law_line" 69 ["_law_lot_here"]
  f__law_plus : FnF K mg "_law_plus" 70 ["_law_one", "_law_two_here"]
  f__law_times : FnF K mg "_law_times" 71 ["_law_one", "_law_two_here"]
  f__law_scaled : FnF K mg "_law_scaled" 72 ["_law_lot_here", "_law_by"]
  f__law_less : FnF K mg "_law_less" 73 ["_law_one", "_law_two_here"]
  f__law_later : FnF K mg "_law_later" 74 ["_law_lot_here", "_law_by"]
  f__law_spread : FnF K mg "_law_spread" 75 ["_law_lot_here"]
  f__law_part : FnF K mg "_law_part" 76 ["_law_lot_here", "_law_odd"]
  f__law_channel : FnF K mg "_law_channel" 77 ["_law_filtering", "_law_lot_here"]
  f__law_crossed : FnF K mg "_law_crossed" 78 ["_law_one", "_law_two_here"]
  f__law_lines : FnF K mg "_law_lines" 79 ["_law_pair"]
  f__law_plain : FnF K mg "_law_plain" 80 ["_law_lot_here"]
  f__law_parted : FnF K mg "_law_parted" 81 ["_law_one", "_law_two_here"]
  f__law_quotient : FnF K mg "_law_quotient" 82 ["_law_one", "_law_two_here"]
  f__law_greatest : FnF K mg "_law_greatest" 83 ["_law_one", "_law_two_here"]
  f__law_number : FnF K mg "_law_number" 84 ["_law_well_here"]
  f__law_near : FnF K mg "_law_near" 85 ["_law_well_here", "_law_most"]
  f__law_changed : FnF K mg "_law_changed" 86 ["_law_well_here", "_law_lot_here"]
  f__law_is_whole : FnF K mg "_law_is_whole" 87 ["_law_thing"]
  f__law_is_fraction : FnF K mg "_law_is_fraction" 88 ["_law_thing"]
  f__law_is_line : FnF K mg "_law_is_line" 89 ["_law_thing"]
  f__law_are_lines : FnF K mg "_law_are_lines" 90 ["_law_thing"]
  f__law_bar : FnF K mg "_law_bar" 91 ["_law_lot_here"]
  f__law_base : FnF K mg "_law_base" 92 ["_law_one", "_law_two_here"]
  f__law_is_led : FnF K mg "_law_is_led" 93 ["_law_told", "_law_lot_here", "_law_pair"]
  f__law_two : FnF K mg "_law_two" 94 ["_law_well_here"]
  f__law_fits_one : FnF K mg "_law_fits_one" 95 ["_law_one", "_law_two_here", "_law_here", "_law_there"]
  f__law_right : FnF K mg "_law_right" 96 ["_law_well_here"]
  f_law : FnF K mg "law" 97 ["_law_script"]
  m_abs : mg "abs" = none
  m_all : mg "all" = none
  m_bool : mg "bool" = none
  m_dict : mg "dict" = none
  m_divmod : mg "divmod" = none
  m_enumerate : mg "enumerate" = none
  m_int : mg "int" = none
  m_isinstance : mg "isinstance" = none
  m_len : mg "len" = none
  m_list : mg "list" = none
  m_max : mg "max" = none
  m_min : mg "min" = none
  m_range : mg "range" = none
  m_repr : mg "repr" = none
  m_sorted : mg "sorted" = none
  m_tuple : mg "tuple" = none
  m_zip : mg "zip" = none
  g_gcd : mg "gcd" = some (.builtin "math.gcd")
  g_ZERO : ∃ a, mg "ZERO" = some (.ref a) ∧ ∀ H, Dp K H (.ref a) zeroD
  g_ONE : ∃ a, mg "ONE" = some (.ref a) ∧ ∀ H, Dp K H (.ref a) oneD
  g_NOUGHT : ∃ a, mg "NOUGHT" = some (.ref a) ∧ ∀ H, Dp K H (.ref a) noughtD
  g_UNIT : ∃ a, mg "UNIT" = some (.ref a) ∧ ∀ H, Dp K H (.ref a) unitD
  g_NOTHING : ∃ a, mg "NOTHING" = some (.ref a) ∧ ∀ H, Dp K H (.ref a) nothingD
section
variable {P : Program} {w : World} {mg : Str → Option Value} {base : Heap} {K : PySem.W.Frag}
theorem fn_ok {α : Type} {pre : α → Prop} {dl : α → List DP} {d : α → DP} {x : Str} {i : Nat} {ps N : List Str} {k : Nat} (F : FnF K mg x i ps) (S : FnScope N ps (C8.fnScope (topS i))) (hl : ∀ a, (dl a).length = ps.length)
    (body : FnScope N ps (C8.fnScope (topS i)) → ∀ (cdv : Value) (A : Around) (outer : List Env) (s : Shared) (H : Hp) (E : XK) (f : Addr), Room k (A.deeper (envOfC x (C8.fnScope (topS i)) s.heap.objs.size f cdv)) →
      ∃ t, PSs (cxOf C8.CX0 P w K mg base N x (C8.fnScope (topS i)) f cdv A outer s H E).nox (C8.fnBody (topS i)) t ∧ ∀ a, pre a → BdD t (slots N (dl a)) (d a)) : C8.Cal P w K mg base (k + 1) x (spF pre dl d) [] := by
  obtain ⟨f, fd, D, b⟩ := F.ex
  exact def_ok D b S hl fun cdv A outer s H E hr => body S cdv A outer s H E f hr
variable (F : Facts K mg)
include F
theorem c_divisor_of : C8.Cal P w K mg base 1 "divisor_of" (spF (fun _ : Int × Int => True) (fun q => [dD K (.tuple [.int q.1, .int q.2])]) (fun q => dV (.int ((Nat.gcd q.1.natAbs q.2.natAbs : Nat) : Int)))) [] := by
  have ggcd := F.g_gcd
  refine fn_ok F.f_divisor_of (N := ["numbers", "found", "each"]) (C8.fnScope_by (by decide +kernel)) (fun _ => rfl) fun sc cdv A outer s H E f hr => ⟨_, (pss_cons (ps_set (i := 1) sc.nd rfl (Or.inl rfl) pe_int) (pss_cons (ps_for PassesOwn.never rfl (pi_tup (pv 0)) (pg_name (i := 2) sc.nd rfl (Or.inl rfl)) (pss_one (ps_set (i := 1) sc.nd rfl (Or.inl rfl) (pe_callBfun cr_gcd (by rfl) ggcd (pa_cons (pv 1) (pa_cons (pv 2) pa_nil)))))) (pss_one (ps_ret (pv 1))))), fun q hq => ?_⟩
  refine b_asg ed_v (b_st (st_forT (dl := [dD K (.int q.1), dD K (.int q.2)]) (dsj := fun j => [some (dD K (.tuple [.int q.1, .int q.2])), some (dV (.int (if j = 0 then 0 else if j = 1 then (q.1.natAbs : Int) else ((Nat.gcd q.1.natAbs q.2.natAbs : Nat) : Int)))), none]) ((ed_var rfl).imp imp_tup') rfl fun j d hd => ?_) (b_ret (ed_var rfl)))
  match j, hd with
  | 0, hd =>
    have e : dD K (.int q.1) = d := Option.some.inj hd
    subst e
    refine st_weak (st_asg (ed_cb rc_gcd (ea_cons (ed_var rfl) (ea_cons ((ed_var rfl).imp imp_int) ea_nil)))) ?_
    refine fgt_keep ?_
    have e : (Nat.gcd (0 : Int).natAbs q.1.natAbs : Nat) = q.1.natAbs := Nat.gcd_zero_left _
    show Fgt [some (dV (.int ((Nat.gcd (0 : Int).natAbs q.1.natAbs : Nat) : Int))), _] _
    rw [e]
    exact fgt_keep (fgt_drop fgt_nil)
  | 1, hd =>
    have e : dD K (.int q.2) = d := Option.some.inj hd
    subst e
    exact st_weak (st_asg (ed_cb rc_gcd (ea_cons (ed_var rfl) (ea_cons ((ed_var rfl).imp imp_int) ea_nil)))) (fgt_keep (fgt_keep (fgt_drop fgt_nil)))
  | j + 2, hd => simp at hd
theorem c_ratio : C8.Cal P w K mg base 2 "ratio" (spF (fun q : Int × Int => q.2 ≠ 0 ∧ q.1.natAbs < 2 ^ 13500 ∧ q.2.natAbs < 2 ^ 13500) (fun q => [dV (.int q.1), dV (.int q.2)]) (fun q => dD K (ratD (Rat.divInt q.1 q.2)))) [] := by
  have cdivisor_of := c_divisor_of (P := P) (w := w) (base := base) F
  refine fn_ok F.f_ratio (N := ["top", "low", "part"]) (C8.fnScope_by (by decide +kernel)) (fun _ => rfl) fun sc cdv A outer s H E f hr => ⟨_, (pss_cons (ps_set (i := 2) sc.nd rfl (Or.inl rfl) (pe_ifExp (pt_cmpR op_gt (pv 1) pe_int (nomark _)) (C8.pe_c cdivisor_of hr (by decide) (by rfl) (pa_cons (pe_tup (pa_cons (pv 0) (pa_cons (pv 1) pa_nil))) pa_nil)) (pe_un un_neg (C8.pe_c cdivisor_of hr (by decide) (by rfl) (pa_cons (pe_tup (pa_cons (pv 0) (pa_cons (pv 1) pa_nil))) pa_nil))))) (pss_one (ps_ret (pe_tup (pa_cons (pe_op op_fdivX (pv 0) (pv 2)) (pa_cons (pe_op op_fdivX (pv 1) (pv 2)) pa_nil)))))), fun q hq => ?_⟩
  obtain ⟨h0, h1, h2⟩ := hq
  have hg := natAbs_gcd_pos (a := q.1) h0
  refine b_asg (d1 := dV (.int (if q.2 > 0 then ((Nat.gcd q.1.natAbs q.2.natAbs : Nat) : Int) else -((Nat.gcd q.1.natAbs q.2.natAbs : Nat) : Int)))) (ed_if (eb_test (ed_op op_I0 (ed_var rfl) ed_v)) (fun e => ?_) (fun e => ?_)) ?_
  · rw [if_pos (of_decide_eq_true e)]
    exact (ed_call (callP (pre := fun _ : Int × Int => True) (dl := fun q => [dD K (.tuple [.int q.1, .int q.2])]) (d := fun q => dV (.int ((Nat.gcd q.1.natAbs q.2.natAbs : Nat) : Int))) q trivial) (ea_cons (ed_tup (xs := [.int q.1, .int q.2]) (ea_cons ((ed_var rfl).imp imp_int') (ea_cons ((ed_var rfl).imp imp_int') ea_nil)) (by simp)) ea_nil))
  · rw [if_neg (of_decide_eq_false e)]
    exact un_neg_d (ed_call (callP (pre := fun _ : Int × Int => True) (dl := fun q => [dD K (.tuple [.int q.1, .int q.2])]) (d := fun q => dV (.int ((Nat.gcd q.1.natAbs q.2.natAbs : Nat) : Int))) q trivial) (ea_cons (ed_tup (xs := [.int q.1, .int q.2]) (ea_cons ((ed_var rfl).imp imp_int') (ea_cons ((ed_var rfl).imp imp_int') ea_nil)) (by simp)) ea_nil))
  · rw [ratD_divInt h0]
    have hp : (if q.2 > 0 then ((Nat.gcd q.1.natAbs q.2.natAbs : Nat) : Int) else -((Nat.gcd q.1.natAbs q.2.natAbs : Nat) : Int)) ≠ 0 := by split <;> omega
    generalize (if q.2 > 0 then ((Nat.gcd q.1.natAbs q.2.natAbs : Nat) : Int) else -((Nat.gcd q.1.natAbs q.2.natAbs : Nat) : Int)) = part at *
    exact b_ret (ed_tup (ea_cons ((ed_op (op_I (cdiv_of hp h1)) (ed_var rfl) (ed_var rfl)).imp imp_int') (ea_cons ((ed_op (op_I (cdiv_of hp h2)) (ed_var rfl) (ed_var rfl)).imp imp_int') ea_nil)) (by simp))
end
end K65

/-! K65J: fractions, and the simple things of rows -/
namespace K65
open PySem PySem.Spec PyProof.Rows L2
section
variable {P : Program} {w : World} {mg : Str → Option Value} {base : Heap} {K : PySem.W.Frag} {ds : List (Option DP)} {te tl th : TE} {ta : TA}
theorem ed_num {a : Rat} (h : EvD te ds (dD K (ratD a))) : EvD (tOp (rIxT K) te (tC (.int 0))) ds (dV (.int a.num)) := (ed_op (op_ixT (xs := [.int a.num, .int (a.den : Int)]) (by rfl)) h ed_v).imp imp_int
theorem ed_den {a : Rat} (h : EvD te ds (dD K (ratD a))) : EvD (tOp (rIxT K) te (tC (.int 1))) ds (dV (.int (a.den : Int))) := (ed_op (op_ixT (xs := [.int a.num, .int (a.den : Int)]) (by rfl)) h ed_v).imp imp_int
theorem ed_mul {tb : TE} {i j : Int} (h1 : EvD te ds (dV (.int i))) (h2 : EvD tb ds (dV (.int j))) (hi : i.natAbs < 2 ^ 13500) (hj : j.natAbs < 2 ^ 13500) : EvD (tOp (rI CMulW fun i j => .int (i * j)) te tb) ds (dV (.int (i * j))) := ed_op (op_I (cmul_of hi hj)) h1 h2
/-- a row's start, its numbers -/
theorem ed_start {r : Row} (h : EvD te ds (dD K (rowD r))) : EvD (tOp (rIxT K) te (tC (.int 0))) ds (dV (.int r.1)) := (ed_op (op_ixT (xs := [.int r.1, fracsD r.2]) (by rfl)) h ed_v).imp imp_int
theorem ed_nums {r : Row} (h : EvD te ds (dD K (rowD r))) : EvD (tOp (rIxT K) te (tC (.int 1))) ds (dD K (fracsD r.2)) := ed_op (op_ixT (xs := [.int r.1, fracsD r.2]) (by rfl)) h ed_v
theorem imp_fracs {xs : List Rat} : DP.imp (dD K (fracsD xs)) (dTup K (xs.map fun x => dD K (ratD x))) := fun v H h => by
  have := imp_tup' (K := K) (xs := xs.map ratD) v H h
  rw [List.map_map] at this
  exact this
theorem imp_fracs' {xs : List Rat} : DP.imp (dTup K (xs.map fun x => dD K (ratD x))) (dD K (fracsD xs)) := fun v H h => by
  refine imp_tup (K := K) (xs := xs.map ratD) v H ?_
  rw [List.map_map]
  exact h
theorem nth_at {xs : List Rat} {i : Int} (h0 : 0 ≤ i) (h1 : i < xs.length) : atI (xs.map ratD) i = some (ratD (nth xs i)) := by
  unfold atI ixN
  rw [List.length_map, if_pos h0, if_pos h1]
  show (xs.map ratD)[i.toNat]? = _
  rw [List.getElem?_map, List.getElem?_eq_getElem (by omega)]
  unfold nth
  rw [if_pos h0, List.getD_eq_getElem?_getD, List.getElem?_eq_getElem (by omega)]
  rfl
theorem AllIs.drop {dl : List DP} {vs : List V} {H : Hp} (h : AllIs dl vs H) : ∀ n : Nat, AllIs (dl.drop n) (vs.drop n) H := by
  induction h with
  | nil => intro n; simp; exact .nil
  | cons a b ih =>
    intro n
    cases n with
    | zero => exact .cons a b
    | succ n => exact ih n
theorem AllIs.take {dl : List DP} {vs : List V} {H : Hp} (h : AllIs dl vs H) : ∀ n : Nat, AllIs (dl.take n) (vs.take n) H := by
  induction h with
  | nil => intro n; simp; exact .nil
  | cons a b ih =>
    intro n
    cases n with
    | zero => exact .nil
    | succ n => exact .cons a (ih n)
theorem ed_slice {dl : List DP} {lo hi : Nat} (h : EvD te ds (dLst K dl)) (hl : EvD tl ds (dV (.int (lo : Int)))) (hh : EvD th ds (dV (.int (hi : Int)))) (h1 : lo ≤ dl.length) (h2 : hi ≤ dl.length) :
    EvD (tSl (rSlL K) te (tPart tl) (tPart th)) ds (dLst K ((dl.drop lo).take (hi - lo))) := fun σ H s Q q =>
  h σ H s _ fun v H1 e1 hv => hl σ H1 (s.mono e1) _ fun x H2 e2 hx => by
    cases hx
    refine ⟨_, rfl, hh σ H2 ((s.mono e1).mono e2) _ fun y H3 e3 hy => ?_⟩
    cases hy
    obtain ⟨a, us, rfl, hS, ha⟩ := (dLst K dl).mono (e2.trans e3) hv
    have hlen := ha.length
    refine ⟨_, rfl, a, us, rfl, hS, fun p hp => q _ _ (((e1.trans e2).trans e3).trans (same_new hp)) ⟨p, _, rfl, SqL.of upd_same, ?_⟩⟩
    refine AllIs.mono (same_new hp) ?_
    unfold cutV
    rw [HT.sIx_nat, HT.sIx_nat, Nat.min_eq_left (by omega), Nat.min_eq_left (by omega)]
    exact (ha.drop lo).take _
theorem ed_lcR2' {lo hi : Int} {i : Nat} {vs : List Nat} {g : Nat → Rat} (h : EvA ta ds [dV (.int lo), dV (.int hi)]) (hb : -(2 ^ 61) ≤ lo ∧ lo < 2 ^ 61 ∧ -(2 ^ 61) ≤ hi ∧ hi < 2 ^ 61) (hn : (hi - lo).toNat ≤ 1000) (hi' : i ∈ vs)
    (he : ∀ j : Nat, (j : Int) < hi - lo → EvD te ((wipeD ds vs).set i (some (dV (.int (lo + (j : Int)))))) (dD K (ratD (g j)))) : EvD (tLc (iRng2 ta) (gName i) tYes te vs) ds (dLst K (((List.range (hi - lo).toNat).map g).map fun x => dD K (ratD x))) := by
  have := ed_lcR2 (K := K) (f := fun j => dD K (ratD (g j))) (p := fun _ => true) h hb hn hi' (fun _ _ => eb_yes) (fun j hj _ => he j hj) (fun _ _ _ => stiff_rat)
  rw [all_true] at this
  rw [List.map_map]
  exact this
/-- over a tuple of fractions -/
theorem ed_lcF {xs : List Rat} {i : Nat} {vs : List Nat} {g : Rat → Rat} {te' : TE} (h : EvD te ds (dD K (fracsD xs))) (hn : xs.length ≤ 1000) (hi' : i ∈ vs)
    (he : ∀ x ∈ xs, EvD te' ((wipeD ds vs).set i (some (dD K (ratD x)))) (dD K (ratD (g x)))) : EvD (tLc (iTup K te) (gName i) tYes te' vs) ds (dLst K ((xs.map g).map fun x => dD K (ratD x))) := by
  have := ed_lcT (K := K) (dl := xs.map fun x => dD K (ratD x)) (f := fun j => dD K (ratD (g (xs.getD j 0)))) (p := fun _ => true) (h.imp imp_fracs) (by rw [List.length_map]; exact hn) hi' (fun _ _ _ => eb_yes) (te' := te') (fun j d hd _ => ?_) (fun _ _ _ _ => stiff_rat)
  · rw [all_true, List.length_map] at this
    have e : ((List.range xs.length).map fun j => dD K (ratD (g (xs.getD j 0)))) = (xs.map g).map fun x => dD K (ratD x) := by
      apply List.ext_getElem
      · simp
      · intro k h1 h2
        simp
        congr 3
        rw [List.getElem?_eq_getElem (by simpa using h1)]
        rfl
    rw [e] at this
    exact this
  · rw [List.getElem?_map] at hd
    cases e : xs[j]? with
    | none => rw [e] at hd; cases hd
    | some x =>
      rw [e] at hd
      have hd : dD K (ratD x) = d := Option.some.inj hd
      subst hd
      rw [List.getD_eq_getElem?_getD, e]
      exact he x (List.mem_of_getElem? e)
variable (F : Facts K mg)
include F
theorem c_plus : C8.Cal P w K mg base 3 "plus" (spF (fun q : Rat × Rat => Sm q.1 ∧ Sm q.2) (fun q => [dD K (ratD q.1), dD K (ratD q.2)]) (fun q => dD K (ratD (q.1 + q.2)))) [] := by
  have cratio := c_ratio (P := P) (w := w) (base := base) F
  refine fn_ok F.f_plus (N := ["one", "two"]) (C8.fnScope_by (by decide +kernel)) (fun _ => rfl) fun sc cdv A outer s H E f hr => ⟨_, (pss_one (ps_ret (C8.pe_c cratio hr (by decide) (by rfl) (pa_cons (pe_op op_add (pe_op op_mulW (pe_ix ix_tup (pv 0) pe_int (fun _ _ => rfl)) (pe_ix ix_tup (pv 1) pe_int (fun _ _ => rfl))) (pe_op op_mulW (pe_ix ix_tup (pv 1) pe_int (fun _ _ => rfl)) (pe_ix ix_tup (pv 0) pe_int (fun _ _ => rfl)))) (pa_cons (pe_op op_mulW (pe_ix ix_tup (pv 0) pe_int (fun _ _ => rfl)) (pe_ix ix_tup (pv 1) pe_int (fun _ _ => rfl))) pa_nil))))), fun q hq => ?_⟩
  obtain ⟨⟨a1, a2⟩, ⟨b1, b2⟩⟩ := hq
  have z1 := q.1.den_nz
  have z2 := q.2.den_nz
  have m1 := sm_mul (i := q.1.num) (j := q.2.den) a1 (by simpa using b2)
  have m2 := sm_mul (i := q.2.num) (j := q.1.den) b1 (by simpa using a2)
  have m3 := sm_mul (i := (q.1.den : Int)) (j := q.2.den) (by simpa using a2) (by simpa using b2)
  rw [← rat_add]
  refine b_ret (ed_call (callP (_, _) ⟨?_, ?_, ?_⟩) (ea_cons (ed_op op_I0 (ed_mul (ed_num (ed_var rfl)) (ed_den (ed_var rfl)) ?_ ?_) (ed_mul (ed_num (ed_var rfl)) (ed_den (ed_var rfl)) ?_ ?_)) (ea_cons (ed_mul (ed_den (ed_var rfl)) (ed_den (ed_var rfl)) ?_ ?_) ea_nil)))
  · exact Int.mul_ne_zero (by omega) (by omega)
  · exact lt13500 (Nat.le_trans (Int.natAbs_add_le _ _) (Nat.add_le_add m1 m2))
  · exact lt13500 (Nat.le_trans m3 (Nat.le_add_right _ _))
  all_goals first | exact le_lt13500 a1 | exact le_lt13500 b1 | exact le_lt13500 (by simpa using a2) | exact le_lt13500 (by simpa using b2)
theorem c_minus : C8.Cal P w K mg base 3 "minus" (spF (fun q : Rat × Rat => Sm q.1 ∧ Sm q.2) (fun q => [dD K (ratD q.1), dD K (ratD q.2)]) (fun q => dD K (ratD (q.1 - q.2)))) [] := by
  have cratio := c_ratio (P := P) (w := w) (base := base) F
  refine fn_ok F.f_minus (N := ["one", "two"]) (C8.fnScope_by (by decide +kernel)) (fun _ => rfl) fun sc cdv A outer s H E f hr => ⟨_, (pss_one (ps_ret (C8.pe_c cratio hr (by decide) (by rfl) (pa_cons (pe_op op_sub (pe_op op_mulW (pe_ix ix_tup (pv 0) pe_int (fun _ _ => rfl)) (pe_ix ix_tup (pv 1) pe_int (fun _ _ => rfl))) (pe_op op_mulW (pe_ix ix_tup (pv 1) pe_int (fun _ _ => rfl)) (pe_ix ix_tup (pv 0) pe_int (fun _ _ => rfl)))) (pa_cons (pe_op op_mulW (pe_ix ix_tup (pv 0) pe_int (fun _ _ => rfl)) (pe_ix ix_tup (pv 1) pe_int (fun _ _ => rfl))) pa_nil))))), fun q hq => ?_⟩
  obtain ⟨⟨a1, a2⟩, ⟨b1, b2⟩⟩ := hq
  have z1 := q.1.den_nz
  have z2 := q.2.den_nz
  have m1 := sm_mul (i := q.1.num) (j := q.2.den) a1 (by simpa using b2)
  have m2 := sm_mul (i := q.2.num) (j := q.1.den) b1 (by simpa using a2)
  have m3 := sm_mul (i := (q.1.den : Int)) (j := q.2.den) (by simpa using a2) (by simpa using b2)
  rw [← rat_sub]
  refine b_ret (ed_call (callP (_, _) ⟨?_, ?_, ?_⟩) (ea_cons (ed_op op_I0 (ed_mul (ed_num (ed_var rfl)) (ed_den (ed_var rfl)) ?_ ?_) (ed_mul (ed_num (ed_var rfl)) (ed_den (ed_var rfl)) ?_ ?_)) (ea_cons (ed_mul (ed_den (ed_var rfl)) (ed_den (ed_var rfl)) ?_ ?_) ea_nil)))
  · exact Int.mul_ne_zero (by omega) (by omega)
  · exact lt13500 (Nat.le_trans (Int.natAbs_sub_le _ _) (Nat.add_le_add m1 m2))
  · exact lt13500 (Nat.le_trans m3 (Nat.le_add_right _ _))
  all_goals first | exact le_lt13500 a1 | exact le_lt13500 b1 | exact le_lt13500 (by simpa using a2) | exact le_lt13500 (by simpa using b2)
theorem c_times : C8.Cal P w K mg base 3 "times" (spF (fun q : Rat × Rat => Sm q.1 ∧ Sm q.2) (fun q => [dD K (ratD q.1), dD K (ratD q.2)]) (fun q => dD K (ratD (q.1 * q.2)))) [] := by
  have cratio := c_ratio (P := P) (w := w) (base := base) F
  refine fn_ok F.f_times (N := ["one", "two"]) (C8.fnScope_by (by decide +kernel)) (fun _ => rfl) fun sc cdv A outer s H E f hr => ⟨_, (pss_one (ps_ret (C8.pe_c cratio hr (by decide) (by rfl) (pa_cons (pe_op op_mulW (pe_ix ix_tup (pv 0) pe_int (fun _ _ => rfl)) (pe_ix ix_tup (pv 1) pe_int (fun _ _ => rfl))) (pa_cons (pe_op op_mulW (pe_ix ix_tup (pv 0) pe_int (fun _ _ => rfl)) (pe_ix ix_tup (pv 1) pe_int (fun _ _ => rfl))) pa_nil))))), fun q hq => ?_⟩
  obtain ⟨⟨a1, a2⟩, ⟨b1, b2⟩⟩ := hq
  have z1 := q.1.den_nz
  have z2 := q.2.den_nz
  have m1 := sm_mul (i := q.1.num) (j := q.2.num) a1 b1
  have m3 := sm_mul (i := (q.1.den : Int)) (j := q.2.den) (by simpa using a2) (by simpa using b2)
  rw [← rat_mul]
  refine b_ret (ed_call (callP (_, _) ⟨?_, ?_, ?_⟩) (ea_cons (ed_mul (ed_num (ed_var rfl)) (ed_num (ed_var rfl)) ?_ ?_) (ea_cons (ed_mul (ed_den (ed_var rfl)) (ed_den (ed_var rfl)) ?_ ?_) ea_nil)))
  · exact Int.mul_ne_zero (by omega) (by omega)
  · exact lt13500 (Nat.le_trans m1 (Nat.le_add_right _ _))
  · exact lt13500 (Nat.le_trans m3 (Nat.le_add_right _ _))
  all_goals first | exact le_lt13500 a1 | exact le_lt13500 b1 | exact le_lt13500 (by simpa using a2) | exact le_lt13500 (by simpa using b2)
theorem c_over : C8.Cal P w K mg base 3 "over" (spF (fun q : Rat × Rat => Sm q.1 ∧ Sm q.2 ∧ q.2 ≠ 0) (fun q => [dD K (ratD q.1), dD K (ratD q.2)]) (fun q => dD K (ratD (q.1 / q.2)))) [] := by
  have cratio := c_ratio (P := P) (w := w) (base := base) F
  refine fn_ok F.f_over (N := ["one", "two"]) (C8.fnScope_by (by decide +kernel)) (fun _ => rfl) fun sc cdv A outer s H E f hr => ⟨_, (pss_one (ps_ret (C8.pe_c cratio hr (by decide) (by rfl) (pa_cons (pe_op op_mulW (pe_ix ix_tup (pv 0) pe_int (fun _ _ => rfl)) (pe_ix ix_tup (pv 1) pe_int (fun _ _ => rfl))) (pa_cons (pe_op op_mulW (pe_ix ix_tup (pv 0) pe_int (fun _ _ => rfl)) (pe_ix ix_tup (pv 1) pe_int (fun _ _ => rfl))) pa_nil))))), fun q hq => ?_⟩
  obtain ⟨⟨a1, a2⟩, ⟨b1, b2⟩, h0⟩ := hq
  have z1 := q.1.den_nz
  have z2 : q.2.num ≠ 0 := fun e => h0 (Rat.num_eq_zero.mp e)
  have m1 := sm_mul (i := q.1.num) (j := q.2.den) a1 (by simpa using b2)
  have m3 := sm_mul (i := (q.1.den : Int)) (j := q.2.num) (by simpa using a2) b1
  rw [← rat_div]
  refine b_ret (ed_call (callP (_, _) ⟨?_, ?_, ?_⟩) (ea_cons (ed_mul (ed_num (ed_var rfl)) (ed_den (ed_var rfl)) ?_ ?_) (ea_cons (ed_mul (ed_den (ed_var rfl)) (ed_num (ed_var rfl)) ?_ ?_) ea_nil)))
  · exact Int.mul_ne_zero (by omega) z2
  · exact lt13500 (Nat.le_trans m1 (Nat.le_add_right _ _))
  · exact lt13500 (Nat.le_trans m3 (Nat.le_add_right _ _))
  all_goals first | exact le_lt13500 a1 | exact le_lt13500 b1 | exact le_lt13500 (by simpa using a2) | exact le_lt13500 (by simpa using b2)
theorem c_end_of : C8.Cal P w K mg base 1 "end_of" (spF (fun _ : Row => True) (fun r => [dD K (rowD r)]) (fun r => dV (.int (r.1 + r.2.length)))) [] := by
  have mlen := F.m_len
  refine fn_ok F.f_end_of (N := ["row"]) (C8.fnScope_by (by decide +kernel)) (fun _ => rfl) fun sc cdv A outer s H E f hr => ⟨_, (pss_one (ps_ret (pe_op op_add (pe_ix ix_tup (pv 0) pe_int (fun _ _ => rfl)) (pe_callB call_len (by rfl) mlen PySem.boot_len (pa_cons (pe_ix ix_tup (pv 0) pe_int (fun _ _ => rfl)) pa_nil))))), fun q hq => ?_⟩
  refine b_ret (ed_op op_I0 (ed_start (ed_var rfl)) ?_)
  have := ed_cb (rc_lenD (K := K) (xs := q.2.map ratD)) (ea_cons (ed_nums (r := q) (ds := slots ["row"] [dD K (rowD q)]) (ed_var (i := 0) rfl)) ea_nil)
  rw [List.length_map] at this
  exact this
theorem c_at_place : C8.Cal P w K mg base 2 "at_place" (spF (fun _ : Row × Int => True) (fun q => [dD K (rowD q.1), dV (.int q.2)]) (fun q => dD K (ratD (nth q.1.2 (q.2 - q.1.1))))) [] := by
  obtain ⟨aZERO, gZERO0, hZERO⟩ := F.g_ZERO
  have gZERO : ∃ u, mg "ZERO" = some u ∧ RelV (V.ref aZERO) u := ⟨_, gZERO0, rfl⟩
  have cend_of := c_end_of (P := P) (w := w) (base := base) F
  refine fn_ok F.f_at_place (N := ["row", "place"]) (C8.fnScope_by (by decide +kernel)) (fun _ => rfl) fun sc cdv A outer s H E f hr => ⟨_, (pss_one (ps_ret (pe_ifExp (pt_chain op_le op_lt (pe_ix ix_tup (pv 0) pe_int (fun _ _ => rfl)) (pv 1) (C8.pe_c cend_of hr (by decide) (by rfl) (pa_cons (pv 0) pa_nil))) (pe_ix ix_tup (pe_ix ix_tup (pv 0) pe_int (fun _ _ => rfl)) (pe_op op_sub (pv 1) (pe_ix ix_tup (pv 0) pe_int (fun _ _ => rfl))) (fun _ _ => rfl)) (C8.pe_gc rfl gZERO)))), fun q hq => ?_⟩
  refine b_ret (ed_if (eb_chain (ed_start (ed_var rfl)) (ed_var rfl) (ed_call (callP _ trivial) (ea_cons (ed_var rfl) ea_nil))) (fun e => ?_) (fun e => ?_))
  · simp only [Bool.and_eq_true, decide_eq_true_eq] at e
    exact ed_op (op_ixT (nth_at (by omega) (by omega))) (ed_nums (ed_var rfl)) (ed_op op_I0 (ed_var rfl) (ed_start (ed_var rfl)))
  · simp only [Bool.and_eq_false_iff, decide_eq_false_iff_not] at e
    rw [nth_out (by omega)]
    exact ed_c hZERO
end
end K65

/-! K65M: rows -/
namespace K65
open PySem PySem.Spec PyProof.Rows L2
/-! ### plain -/
theorem co_row (p : L) (k : Int) : p.co k = nth (rowOf p).2 (k - (rowOf p).1) := by
  have h := (rowOf_is p).2
  conv => lhs; rw [← h]
  exact co_rowL _ _ _
theorem row_w {a : Int} {p : L} (ha : 0 ≤ a) (h : W a p) : -a ≤ (rowOf p).1 ∧ (rowOf p).1 + (rowOf p).2.length ≤ a + 1 ∧ ((rowOf p).2.length : Int) ≤ 2 * a + 1 := by
  by_cases e : p = 0
  · rw [e, rowOf_zero]
    simp
    omega
  · obtain ⟨a1, a2, a3⟩ := (rowOf_is p).ne e
    have t1 := h _ a2.1
    have t2 := h _ a3.1
    omega
theorem row_mem {p : L} {x : Rat} (h : x ∈ (rowOf p).2) : ∃ k, x = p.co k := by
  obtain ⟨i, hi, e⟩ := List.getElem_of_mem h
  refine ⟨(rowOf p).1 + i, ?_⟩
  rw [← (rowOf_is p).get i, List.getD_eq_getElem?_getD, List.getElem?_eq_getElem hi, e]
  rfl
theorem rowL_scale (c : Rat) : ∀ (xs : List Rat) (s : Int), rowL s (xs.map fun x => x * c) = L.scale c (rowL s xs)
  | [], s => by rw [scale_eq]; show (0 : L) = mono 0 c * 0; grind
  | x :: xs, s => by
    show mono s (x * c) + rowL (s + 1) (xs.map fun x => x * c) = L.scale c (mono s x + rowL (s + 1) xs)
    rw [rowL_scale c xs (s + 1)]
    refine L.eq_of_co fun k => ?_
    rw [co_add, co_scale, co_scale, co_add, co_mono, co_mono]
    split <;> grind
theorem spread_mono (s : Int) (x : Rat) : spread (mono s x) = mono (2 * s) x := L.eq_of_co fun k => by
  rw [co_spread, co_mono, co_mono]
  by_cases e : k % 2 = 0
  · rw [if_pos e]
    by_cases z : s = k / 2
    · rw [if_pos z, if_pos (by omega)]
    · rw [if_neg z, if_neg (by omega)]
  · rw [if_neg e, if_neg (by omega)]
theorem rowL_spread : ∀ (xs : List Rat) (s : Int), rowL (2 * s) (xs.flatMap fun x => [x, 0]) = spread (rowL s xs)
  | [], s => rfl
  | x :: xs, s => by
    show mono (2 * s) x + (mono (2 * s + 1) 0 + rowL (2 * s + 1 + 1) (xs.flatMap fun x => [x, 0])) = spread (mono s x + rowL (s + 1) xs)
    rw [spread_add, spread_mono, ← rowL_spread xs (s + 1), show 2 * s + 1 + 1 = 2 * (s + 1) by omega]
    have : mono (2 * s + 1) 0 = 0 := L.eq_of_co fun k => by
      rw [co_mono, co_zero]
      split <;> rfl
    rw [this]
    grind
theorem rowOf_later (n : Int) {p : L} (hp : p ≠ 0) : rowOf (later n p) = ((rowOf p).1 + n, (rowOf p).2) := by
  refine rowOf_eq ⟨?_, ?_⟩
  · rcases (rowOf_is p).1 with ⟨h1, h2⟩ | h
    · exact absurd (by rw [← (rowOf_is p).2, h1]; rfl) hp
    · exact .inr h
  · show rowL ((rowOf p).1 + n) (rowOf p).2 = _
    rw [Int.add_comm, ← rowL_later, (rowOf_is p).2]
noncomputable def isZ (p : L) : Bool := PyData.eqv (pD p) (pD 0)
open Classical in
theorem isZ_iff {p : L} : isZ p = true ↔ p = 0 := by
  unfold isZ
  rw [eqv_p]
  exact ⟨of_decide_eq_true, fun h => decide_eq_true h⟩
theorem isZ_not {p : L} : isZ p = false ↔ p ≠ 0 := by
  rw [← Bool.not_eq_true, isZ_iff]
section
variable {P : Program} {w : World} {mg : Str → Option Value} {base : Heap} {K : PySem.W.Frag} {ds : List (Option DP)} {te tl th : TE} {ta : TA}
theorem eb_isN {p : L} {a : Addr} (h : EvD te ds (dD K (pD p))) (hN : ∀ H, Dp K H (.ref a) noughtD) : EvB (tTest (tOp (rEqD K) te (tC (.ref a)))) ds (isZ p) := by
  rw [noughtD_eq] at hN
  exact eb_test (ed_op (op_eqDD (shaped_p p) (shaped_p 0)) h (ed_c hN))
theorem eb_neN {p : L} {a : Addr} (h : EvD te ds (dD K (pD p))) (hN : ∀ H, Dp K H (.ref a) noughtD) : EvB (tTest (tOp (rNeD K) te (tC (.ref a)))) ds (!isZ p) := by
  rw [noughtD_eq] at hN
  exact eb_test (ed_op (op_neDD (shaped_p p) (shaped_p 0)) h (ed_c hN))
theorem ed_N {a : Addr} (hN : ∀ H, Dp K H (.ref a) noughtD) : EvD (tC (.ref a)) ds (dD K (pD 0)) := by
  rw [noughtD_eq] at hN
  exact ed_c hN
/-- a list that is no other's -/
def dLsX (dl : List DP) : DP := ⟨fun v H => ∃ a vs, v = .ref a ∧ H a = some (.lst vs) ∧ AllIs dl vs H, fun e h => by
  obtain ⟨a, vs, h1, h2, h3⟩ := h
  exact ⟨a, vs, h1, e _ _ h2, h3.mono e⟩⟩
theorem imp_lsX {dl : List DP} : DP.imp (dLsX dl) (dLst K dl) := fun v H h => by
  obtain ⟨a, vs, h1, h2, h3⟩ := h
  exact ⟨a, vs, h1, SqL.of h2, h3⟩
theorem ed_lsX {dl : List DP} (h : EvA ta ds dl) (hl : dl.length ≤ 1000) : EvD (tLst ta) ds (dLsX dl) := fun σ H s Q q =>
  h σ H s _ fun vs H1 e1 hvs => ⟨Nat.le_of_lt (small1000 (by rw [hvs.length]; exact hl)), fun p hp => q (.ref p) _ (e1.trans (same_new hp)) ⟨p, vs, rfl, upd_same, hvs.mono (same_new hp)⟩⟩
theorem AllIs.app {dl dl' : List DP} {vs vs' : List V} {H : Hp} (h : AllIs dl vs H) (h' : AllIs dl' vs' H) : AllIs (dl ++ dl') (vs ++ vs') H := by
  induction h with
  | nil => exact h'
  | cons a _ ih => exact .cons a (ih h')
theorem op_catX {dl dl' : List DP} (hl : dl.length + dl'.length ≤ 1000) : OpP rCat (dLsX dl) (dLsX dl') (dLsX (dl ++ dl')) := fun x y H hx hy Q q => by
  obtain ⟨a, vs, rfl, h1, h2⟩ := hx
  obtain ⟨b, us, rfl, k1, k2⟩ := hy
  refine ⟨a, b, vs, us, rfl, rfl, h1, k1, Nat.le_of_lt (small1000 (by rw [h2.length, k2.length]; exact hl)), fun p hp => q _ _ (same_new hp) ⟨p, _, rfl, upd_same, (h2.app k2).mono (same_new hp)⟩⟩
theorem fr_at {xs : List Rat} {i : Int} (h0 : 0 ≤ i) (h1 : i < xs.length) : atI (xs.map fun x => dD K (ratD x)) i = some (dD K (ratD (nth xs i))) := by
  unfold atI ixN
  rw [List.length_map, if_pos h0, if_pos h1]
  show (xs.map fun x => dD K (ratD x))[i.toNat]? = _
  rw [List.getElem?_map, List.getElem?_eq_getElem (by omega)]
  unfold nth
  rw [if_pos h0, List.getD_eq_getElem?_getD, List.getElem?_eq_getElem (by omega)]
  rfl
theorem dec_num {x : Rat} : decide (V.int x.num = V.int 0) = decide (x = 0) := by
  by_cases e : x = 0
  · subst e
    rfl
  · rw [decide_eq_false e, decide_eq_false]
    intro z
    exact e (Rat.num_eq_zero.mp (V.int.inj z))
variable (F : Facts K mg)
include F
theorem c_row_by : C8.Cal P w K mg base 1 "row_by" (spF (fun _ : Int × List Rat => True) (fun q => [dV (.int q.1), dLst K (q.2.map fun x => dD K (ratD x))]) (fun q => dD K (pD (rowL q.1 q.2)))) [] := by
  obtain ⟨aNOUGHT, gNOUGHT0, hNOUGHT⟩ := F.g_NOUGHT
  have gNOUGHT : ∃ u, mg "NOUGHT" = some u ∧ RelV (V.ref aNOUGHT) u := ⟨_, gNOUGHT0, rfl⟩
  have mlen := F.m_len
  have mtuple := F.m_tuple
  refine fn_ok F.f_row_by (N := ["start", "numbers", "low", "high"]) (C8.fnScope_by (by decide +kernel)) (fun _ => rfl) fun sc cdv A outer s H E f hr => ⟨_, (pss_cons (ps_par (i := 2) (j := 3) rfl sc.nd rfl rfl (by decide) rfl rfl (pa_cons pe_int (pa_cons (pe_callB call_len (by rfl) mlen PySem.boot_len (pa_cons (pv 1) pa_nil)) pa_nil)) (by rfl)) (pss_cons (ps_while PassesOwn.never (PW.pt (pw_and (pt_cmpR op_lt (pv 2) (pv 3) (nomark _)) (pw_and1 (pt_cmpR op_eq (pe_ix ix_tup (pe_ix ix_list (pv 1) (pv 2) (fun _ _ => rfl)) pe_int (fun _ _ => rfl)) pe_int (nomark _))))) (pss_one (ps_aug (i := 2) sc.nd rfl (Or.inl rfl) pe_int ip_add))) (pss_cons (ps_while PassesOwn.never (PW.pt (pw_and (pt_cmpR op_lt (pv 2) (pv 3) (nomark _)) (pw_and1 (pt_cmpR op_eq (pe_ix ix_tup (pe_ix ix_list (pv 1) (pe_op op_sub (pv 3) pe_int) (fun _ _ => rfl)) pe_int (fun _ _ => rfl)) pe_int (nomark _))))) (pss_one (ps_aug (i := 3) sc.nd rfl (Or.inl rfl) pe_int ip_sub))) (pss_one (ps_ret (pe_ifExp (pt_cmpR op_lt (pv 2) (pv 3) (nomark _)) (pe_tup (pa_cons (pe_op op_add (pv 0) (pv 2)) (pa_cons (pe_callTy call_tuple_of (by rfl) mtuple (by decide +kernel) (pa_cons (pe_slice sl_list (pv 1) (po_some (pv 2)) (po_some (pv 3))) pa_nil)) pa_nil))) (C8.pe_gc rfl gNOUGHT))))))), fun q hq => ?_⟩
  obtain ⟨st, xs⟩ := q
  have hlen : (xs.map fun x => dD K (ratD x)).length = xs.length := List.length_map ..
  have ln := ed_cb (rc_lenL (K := K) (dl := xs.map fun x => dD K (ratD x))) (ea_cons (ed_var (ds := slots ["start", "numbers", "low", "high"] [dV (.int st), dLst K (xs.map fun x => dD K (ratD x))]) (i := 1) rfl) ea_nil)
  rw [hlen] at ln
  refine b_st (st_par (ea_cons ed_v (ea_cons ln ea_nil))) ?_
  -- the first loop
  refine b_while (α := Nat) (I := fun low => [some (dV (.int st)), some (dLst K (xs.map fun x => dD K (ratD x))), some (dV (.int (low : Int))), some (dV (.int (xs.length : Int)))]) (ok := fun low => low ≤ xs.length ∧ ∀ i, i < low → xs.getD i 0 = 0) (fun low => xs.length - low)
    (fun low => decide ((low : Int) < (xs.length : Int)) && decide (xs.getD low 0 = 0)) 0 ⟨Nat.zero_le _, fun i hi => absurd hi (Nat.not_lt_zero _)⟩ rfl (fun low hl => ?_) (fun low hl hc => ?_) (fun low hl hc => ?_)
  · refine eb_and (eb_test (ed_op op_I0 (ed_var rfl) (ed_var rfl))) fun hlt => ?_
    have hlt := of_decide_eq_true hlt
    rw [← dec_num, ← nth_nat]
    exact eb_test (ed_op (op_eqV rfl) (ed_num (ed_op (op_ixLP (fr_at (by omega) (by omega))) (ed_var rfl) (ed_var rfl))) ed_v)
  · rw [Bool.and_eq_true, decide_eq_true_eq, decide_eq_true_eq] at hc
    refine ⟨low + 1, ⟨by omega, fun i hi => ?_⟩, by omega, st_aug rfl ed_v fun H Q q => ⟨_, _, rfl, rfl, q⟩⟩
    by_cases e : i = low
    · rw [e]
      exact hc.2
    · exact hl.2 i (by omega)
  · -- the second
    refine b_while (α := Nat) (I := fun high => [some (dV (.int st)), some (dLst K (xs.map fun x => dD K (ratD x))), some (dV (.int (low : Int))), some (dV (.int (high : Int)))]) (ok := fun high => high ≤ xs.length ∧ low ≤ high ∧ ∀ i, high ≤ i → xs.getD i 0 = 0) (fun high => high)
      (fun high => decide ((low : Int) < (high : Int)) && decide (xs.getD (high - 1) 0 = 0)) xs.length ⟨Nat.le_refl _, hl.1, fun i hi => getD_out hi⟩ rfl (fun high hh => ?_) (fun high hh hc2 => ?_) (fun high hh hc2 => ?_)
    · refine eb_and (eb_test (ed_op op_I0 (ed_var rfl) (ed_var rfl))) fun hlt => ?_
      have hlt := of_decide_eq_true hlt
      have e1 : xs.getD (high - 1) 0 = nth xs ((high : Int) - 1) := by
        rw [show (high : Int) - 1 = ((high - 1 : Nat) : Int) by omega, nth_nat]
      rw [← dec_num, e1]
      exact eb_test (ed_op (op_eqV rfl) (ed_num (ed_op (op_ixLP (fr_at (by omega) (by omega))) (ed_var rfl) (ed_op op_I0 (ed_var rfl) ed_v))) ed_v)
    · rw [Bool.and_eq_true, decide_eq_true_eq, decide_eq_true_eq] at hc2
      refine ⟨high - 1, ⟨by omega, by omega, fun i hi => ?_⟩, by omega, ?_⟩
      · by_cases e : i = high - 1
        · rw [e]
          exact hc2.2
        · exact hh.2.2 i (by omega)
      · have := st_aug (ds := [some (dV (.int st)), some (dLst K (xs.map fun x => dD K (ratD x))), some (dV (.int (low : Int))), some (dV (.int (high : Int)))]) (i := 3) (a := (high : Int)) (b := 1) (tip := ipI fun i j => i - j) rfl (ed_v (v := .int 1)) (r := ((high - 1 : Nat) : Int)) fun H Q q => ⟨_, _, rfl, rfl, by show Q (V.int ((high : Int) - 1)) H; rw [show (high : Int) - 1 = ((high - 1 : Nat) : Int) by omega]; exact q⟩
        exact this
    · -- the row
      rw [Bool.and_eq_false_iff, decide_eq_false_iff_not, decide_eq_false_iff_not] at hc hc2
      have cut := rowOf_cut (s := st) (xs := xs) (low := low) (high := high) hh.2.1 hh.1 hl.2 hh.2.2 fun hlt => ⟨hc.elim (fun z => absurd (by omega) z) id, hc2.elim (fun z => absurd (by omega) z) id⟩
      show BdD _ _ (dD K (rowD (rowOf (rowL st xs))))
      rw [cut]
      refine b_ret (ed_if (eb_test (ed_op op_I0 (ed_var rfl) (ed_var rfl))) (fun e => ?_) (fun e => ?_))
      · have e := of_decide_eq_true e
        rw [if_pos (by omega)]
        refine ed_tup (xs := [.int (st + low), fracsD ((xs.drop low).take (high - low))]) (ea_cons ((ed_op op_I0 (ed_var rfl) (ed_var rfl)).imp imp_int') (ea_cons (EvD.imp (ed_cb rc_tuple (ea_cons (ed_slice (lo := low) (hi := high) (ed_var rfl) (ed_var rfl) (ed_var rfl) (by rw [hlen]; omega) (by rw [hlen]; omega)) ea_nil)) fun v H h => ?_) ea_nil)) (by simp)
        refine imp_fracs' v H ?_
        rw [List.map_take, List.map_drop]
        exact h
      · have e := of_decide_eq_false e
        rw [if_neg (by omega)]
        exact ed_c hNOUGHT
theorem c_row_sum : C8.Cal P w K mg base 4 "row_sum" (spF (fun q : L × L => SbOk q.1 q.2) (fun q => [dD K (pD q.1), dD K (pD q.2)]) (fun q => dD K (pD (q.1 + q.2)))) [] := by
  have crow_by := c_row_by (P := P) (w := w) (base := base) F
  obtain ⟨aNOUGHT, gNOUGHT0, hNOUGHT⟩ := F.g_NOUGHT
  have gNOUGHT : ∃ u, mg "NOUGHT" = some u ∧ RelV (V.ref aNOUGHT) u := ⟨_, gNOUGHT0, rfl⟩
  have mmin := F.m_min
  have mmax := F.m_max
  have cend_of := c_end_of (P := P) (w := w) (base := base) F
  have cplus := c_plus (P := P) (w := w) (base := base) F
  have cat_place := c_at_place (P := P) (w := w) (base := base) F
  have mrange := F.m_range
  refine fn_ok F.f_row_sum (N := ["one", "two", "low", "high", "at"]) (C8.fnScope_by (by decide +kernel)) (fun _ => rfl) fun sc cdv A outer s H E f hr => ⟨_, (pss_cons (ps_if (PW.pt (pw_or (pt_cmpR (op_eqD hr.units) (pv 0) (C8.pe_gc rfl gNOUGHT) (nomark _)) (pw_or1 (pt_cmpR (op_eqD hr.units) (pv 1) (C8.pe_gc rfl gNOUGHT) (nomark _))))) (pss_one (ps_ret (pe_ifExp (pt_cmpR (op_eqD hr.units) (pv 0) (C8.pe_gc rfl gNOUGHT) (nomark _)) (pv 1) (pv 0)))) pss_nil) (pss_cons (ps_par (i := 2) (j := 3) rfl sc.nd rfl rfl (by decide) rfl rfl (pa_cons (pe_callB (call_min2 rfl) (by rfl) mmin (by decide +kernel) (pa_cons (pe_ix ix_tup (pv 0) pe_int (fun _ _ => rfl)) (pa_cons (pe_ix ix_tup (pv 1) pe_int (fun _ _ => rfl)) pa_nil))) (pa_cons (pe_callB (call_max2 rfl) (by rfl) mmax (by decide +kernel) (pa_cons (C8.pe_c cend_of hr (by decide) (by rfl) (pa_cons (pv 0) pa_nil)) (pa_cons (C8.pe_c cend_of hr (by decide) (by rfl) (pa_cons (pv 1) pa_nil)) pa_nil))) pa_nil)) (by rfl)) (pss_one (ps_ret (C8.pe_c crow_by hr (by decide) (by rfl) (pa_cons (pv 2) (pa_cons (pe_lc (own := [("at", 4)]) rfl sc.nd (pi_range2 (by rfl) mrange (pa_cons (pv 2) (pa_cons (pv 3) pa_nil))) (blkOk_by (by change blkC ["one", "two", "low", "high", "at"] (C8.fnScope (topS 24)) _ _ = true; decide +kernel)) (fun _ _ _ _ _ => (pg_name (i := 4) sc.nd rfl (by first | exact Or.inl rfl | exact Or.inr rfl))) (fun _ _ _ _ _ => pts_nil) (fun _ _ _ _ _ => (C8.pe_c cplus hr (by decide) (by rfl) (pa_cons (C8.pe_c cat_place hr (by decide) (by rfl) (pa_cons (pv 0) (pa_cons (pv 4) pa_nil))) (pa_cons (C8.pe_c cat_place hr (by decide) (by rfl) (pa_cons (pv 1) (pa_cons (pv 4) pa_nil))) pa_nil))))) pa_nil))))))), fun q hq => ?_⟩
  obtain ⟨p, q⟩ := q
  obtain ⟨wp, wq, sp, sq⟩ := hq
  replace wp : W 400 p := wp
  replace wq : W 400 q := wq
  have bp := row_w (by omega) wp
  have bq := row_w (by omega) wq
  refine b_if (eb_or (eb_isN (ed_var rfl) hNOUGHT) fun _ => eb_isN (ed_var rfl) hNOUGHT) (fun e => b_ret (ed_if (eb_isN (ed_var rfl) hNOUGHT) (fun e1 => ?_) (fun e1 => ?_))) (fun e => ?_)
  · have e1 := isZ_iff.mp e1
    subst e1
    rw [show 0 + q = q by grind]
    exact ed_var rfl
  · have e1 : (q : L) = 0 := by
      rw [e1, Bool.false_or] at e
      exact isZ_iff.mp e
    subst e1
    rw [show p + 0 = p by grind]
    exact ed_var rfl
  · refine b_st (st_par (ea_cons (ed_cb rc_min2 (ea_cons (ed_start (ed_var rfl)) (ea_cons (ed_start (ed_var rfl)) ea_nil))) (ea_cons (ed_cb rc_max2 (ea_cons (ed_call (callP _ trivial) (ea_cons (ed_var rfl) ea_nil)) (ea_cons (ed_call (callP _ trivial) (ea_cons (ed_var rfl) ea_nil)) ea_nil))) ea_nil))) ?_
    generalize hlo : min (rowOf p).1 (rowOf q).1 = lo
    generalize hhi : max ((rowOf p).1 + ((rowOf p).2.length : Int)) ((rowOf q).1 + ((rowOf q).2.length : Int)) = hi
    have hin : In lo hi (p + q) := fun k hk => by
      rw [co_add] at hk
      by_cases z : p.co k = 0
      · have := row_in q k fun y => hk (by rw [z, y]; grind)
        omega
      · have := row_in p k z
        omega
    have hr := rowL_range (p + q) hin
    have := callP (pre := fun _ : Int × List Rat => True) (dl := fun q => [dV (.int q.1), dLst K (q.2.map fun x => dD K (ratD x))]) (d := fun q => dD K (pD (rowL q.1 q.2))) (lo, (List.range (hi - lo).toNat).map fun i : Nat => (p + q).co (lo + (i : Int))) trivial
    simp only [hr] at this
    refine b_ret (ed_call this (ea_cons (ed_var rfl) (ea_cons (ed_lcR2' (ea_cons (ed_var rfl) (ea_cons (ed_var rfl) ea_nil)) (by omega) (by omega) (by simp) fun j hj => ?_) ea_nil)))
    have := callP (pre := fun q : Rat × Rat => Sm q.1 ∧ Sm q.2) (dl := fun q => [dD K (ratD q.1), dD K (ratD q.2)]) (d := fun q => dD K (ratD (q.1 + q.2))) (p.co (lo + j), q.co (lo + j)) ⟨sp _, sq _⟩
    rw [co_add]
    refine ed_call this (ea_cons ?_ (ea_cons ?_ ea_nil))
    · rw [co_row p]
      exact ed_call (callP (rowOf p, lo + (j : Int)) trivial) (ea_cons (ed_var rfl) (ea_cons (ed_var rfl) ea_nil))
    · rw [co_row q]
      exact ed_call (callP (rowOf q, lo + (j : Int)) trivial) (ea_cons (ed_var rfl) (ea_cons (ed_var rfl) ea_nil))
end
end K65

/-! K65N: rows; lists that are changed -/
namespace K65
open PySem PySem.Spec PyProof.Rows L2

/-! ### lists that are changed -/
def dAt (A : Addr) (dl : List DP) : DP := ⟨fun v H => v = .ref A ∧ ∃ vs, H A = some (.lst vs) ∧ AllIs dl vs H, fun e h => by
  obtain ⟨h1, vs, h2, h3⟩ := h
  exact ⟨h1, vs, e _ _ h2, h3.mono e⟩⟩
theorem imp_atX {A : Addr} {dl : List DP} : DP.imp (dAt A dl) (dLsX dl) := fun v H h => by
  obtain ⟨h1, vs, h2, h3⟩ := h
  exact ⟨A, vs, h1, h2, h3⟩
theorem imp_at {K : PySem.W.Frag} {A : Addr} {dl : List DP} : DP.imp (dAt A dl) (dLst K dl) := fun v H h => imp_lsX v H (imp_atX v H h)
/-- the list at A is another -/
structure ChA (A : Addr) (H H' : Hp) : Prop where
  rest : ∀ b o, b ≠ A → H b = some o → H' b = some o
  ex : ∃ vs vs', H A = some (.lst vs) ∧ H' A = some (.lst vs')
theorem ChA.keep {A : Addr} {H H' : Hp} (c : ChA A H H') : Keep H H' := fun b o h n => by
  by_cases e : b = A
  · subst e
    obtain ⟨vs, _, h1, _⟩ := c.ex
    rw [h1] at h
    exact absurd (Option.some.inj h).symm (n vs)
  · exact c.rest b o e h
theorem ChA.same {A : Addr} {H0 H H' : Hp} (c : ChA A H H') (h0 : H0 A = none) (e : Same H0 H) : Same H0 H' := fun b o h => by
  have : b ≠ A := fun z => by
    subst z
    rw [h0] at h
    cases h
  exact c.rest b o this (e b o h)
def OkA (A : Addr) (d : DP) : Prop := ∀ v H H', ChA A H H' → d.is v H → d.is v H'
theorem ok_stiff {A : Addr} {d : DP} (h : d.Stiff) : OkA A d := fun v H H' c q => h v H H' c.keep q
theorem ok_at {A B : Addr} {dl : List DP} (ne : B ≠ A) (hs : ∀ d ∈ dl, d.Stiff) : OkA A (dAt B dl) := fun v H H' c q => by
  obtain ⟨h1, vs, h2, h3⟩ := q
  exact ⟨h1, vs, c.rest _ _ ne h2, h3.keep c.keep hs⟩
inductive OkL (A : Addr) : List (Option DP) → Prop
  | nil : OkL A []
  | none {l : List (Option DP)} : OkL A l → OkL A (Option.none :: l)
  | some {d : DP} {l : List (Option DP)} : OkA A d → OkL A l → OkL A (Option.some d :: l)
theorem OkL.get {A : Addr} {l : List (Option DP)} (h : OkL A l) : ∀ {i : Nat} {d : DP}, l[i]? = Option.some (Option.some d) → OkA A d := by
  induction h with
  | nil => intro i d e; simp at e
  | none _ ih =>
    intro i d e
    cases i with
    | zero => cases e
    | succ i => exact ih (by simpa using e)
  | some a _ ih =>
    intro i d e
    cases i with
    | zero =>
      have e := Option.some.inj (Option.some.inj e)
      subst e
      exact a
    | succ i => exact ih (by simpa using e)
theorem none_back {H H' : Hp} {A : Addr} (e : Same H H') (h : H' A = none) : H A = none := by
  cases q : H A with
  | none => rfl
  | some o =>
    rw [e _ _ q] at h
    cases h
theorem AllIs.set {dl : List DP} {vs : List V} {H : Hp} {d : DP} {v : V} (h : AllIs dl vs H) (j : Nat) (hv : d.is v H) : AllIs (dl.set j d) (vs.set j v) H := by
  induction h generalizing j with
  | nil => exact .nil
  | cons a b ih =>
    cases j with
    | zero => exact .cons hv b
    | succ j => exact .cons a (ih j hv)
/-- statements that may change the lists at As, which are new behind H0 -/
def MtD (As : List Addr) (ts : TS) (ds ds' : List (Option DP)) : Prop := ∀ (H0 : Hp) (D : Ends) (σ : L2.St) (H : Hp), (∀ A ∈ As, H0 A = none) → Same H0 H → Sl σ ds H → (∀ σ' H', Same H0 H' → Keep H H' → Sl σ' ds' H' → D.nx σ' H') → ts D σ H
def BdM (As : List Addr) (ts : TS) (ds : List (Option DP)) (d : DP) : Prop := ∀ (H0 : Hp) (D : Ends) (σ : L2.St) (H : Hp), (∀ A ∈ As, H0 A = none) → Same H0 H → Sl σ ds H → (∀ v H', Same H0 H' → d.is v H' → D.rt v H') → ts D σ H
/-- a new list -/
def EvF (te : TE) (ds : List (Option DP)) (dl : List DP) : Prop := ∀ σ H, Sl σ ds H → ∀ Q : VK, (∀ A vs H', H A = none → Same H H' → H' A = some (.lst vs) → AllIs dl vs H' → Q (.ref A) H') → te σ H Q
section
variable {K : PySem.W.Frag} {As : List Addr} {ds ds1 ds2 ds' : List (Option DP)} {te to ti tl th : TE} {tt : TT} {ta : TA} {t u : TS} {d d1 d2 : DP} {dl : List DP} {A : Addr}
theorem mt_of (h : StD t ds ds') : MtD As t ds ds' := fun H0 D σ H fr e0 s q => h D σ H s fun σ' H' e s' => q σ' H' (e0.trans e) (Keep.of_same e) s'
theorem mt_seq (h : MtD As t ds ds1) (k : MtD As u ds1 ds2) : MtD As (tSeq t u) ds ds2 := fun H0 D σ H fr e0 s q =>
  h H0 { D with nx := u D } σ H fr e0 s fun σ1 H1 e1 k1 s1 => k H0 D σ1 H1 fr e1 s1 fun σ2 H2 e2 k2 s2 => q σ2 H2 e2 (k1.trans k2) s2
theorem mt_weak (h : MtD As t ds ds1) (f : Fgt ds1 ds2) : MtD As t ds ds2 := fun H0 D σ H fr e0 s q => h H0 D σ H fr e0 s fun σ1 H1 e1 k1 s1 => q σ1 H1 e1 k1 (s1.fgt f)
theorem bm_of (h : BdD t ds d) : BdM As t ds d := fun H0 D σ H fr e0 s q => h D σ H s fun v H' e hv => q v H' (e0.trans e) hv
theorem bd_of (h : BdM [] t ds d) : BdD t ds d := fun D σ H s q => h H D σ H (fun _ h => nomatch h) (Same.refl H) s q
theorem bm_mt (h : MtD As t ds ds1) (k : BdM As u ds1 d) : BdM As (tSeq t u) ds d := fun H0 D σ H fr e0 s q =>
  h H0 { D with nx := u D } σ H fr e0 s fun σ1 H1 e1 _ s1 => k H0 D σ1 H1 fr e1 s1 q
theorem bm_new {i : Nat} (h : EvF te ds dl) (k : ∀ A, BdM (A :: As) u (ds.set i (some (dAt A dl))) d) : BdM As (tSeq (tAsg te (gName i)) u) ds d := fun H0 D σ H fr e0 s q =>
  h σ H s _ fun A vs H1 hA e1 hv ha => k A H0 D _ H1 (fun B hB => by
    rcases List.mem_cons.mp hB with z | z
    · rw [z]
      exact none_back e0 hA
    · exact fr B z) (e0.trans e1) ((s.mono e1).set i ⟨rfl, vs, hv, ha⟩) q
theorem bm_par {i j : Nat} (h : EvF te ds dl) (h2 : EvD to ds d2) (k : ∀ A, BdM (A :: As) u ((ds.set i (some (dAt A dl))).set j (some d2)) d) : BdM As (tSeq (tPar i j (tCons te (tCons to tNil))) u) ds d := fun H0 D σ H fr e0 s q =>
  h σ H s _ fun A vs H1 hA e1 hv ha => h2 σ H1 (s.mono e1) _ fun y H2 e2 hy => ⟨_, _, rfl, k A H0 D _ H2 (fun B hB => by
    rcases List.mem_cons.mp hB with z | z
    · rw [z]
      exact none_back e0 hA
    · exact fr B z) (e0.trans (e1.trans e2)) ((((s.mono e1).mono e2).set i (d := dAt A dl) ⟨rfl, vs, e2 _ _ hv, ha.mono e2⟩).set j hy) q⟩
theorem mt_set {k j : Nat} {i : Int} (hA : A ∈ As) (hk : ds[k]? = some (some (dAt A dl))) (hv : EvD te ds d) (hto : to = tVar k) (hi : EvD ti ds (dV (.int i))) (hj : ixN dl.length i = some j) (hd : d.Stiff) (hdl : ∀ x ∈ dl, x.Stiff) (ok : OkL A (ds.set k none)) :
    MtD As (tAsg te (gSub to ti rSetL)) ds (ds.set k (some (dAt A (dl.set j d)))) := fun H0 D σ H fr e0 s q =>
  hv σ H s _ fun v H1 e1 hv1 => by
    subst hto
    obtain ⟨w, hw, hAt⟩ := (s.mono e1).at' k _ hk
    refine ⟨w, hw, hi σ H1 (s.mono e1) _ fun y H2 e2 hy => ?_⟩
    cases hy
    obtain ⟨rfl, vs, h2, h3⟩ := (dAt A dl).mono e2 hAt
    have hlen := h3.length
    refine ⟨A, vs, i, j, rfl, rfl, h2, by rw [hlen]; exact hj, ?_⟩
    have c : ChA A H2 (upd H2 A (.lst (vs.set j v))) := ⟨fun b o ne h => by rw [upd_ne ne]; exact h, vs, _, h2, upd_same⟩
    have s2 := (s.mono e1).mono e2
    refine q σ _ (c.same (fr A hA) (e0.trans (e1.trans e2))) ((Keep.of_same (e1.trans e2)).trans c.keep) ⟨by rw [List.length_set]; exact s.len, fun i' d' hd' => ?_⟩
    rw [List.getElem?_set] at hd'
    by_cases e : k = i'
    · subst e
      rw [if_pos rfl] at hd'
      split at hd'
      · have hd' := Option.some.inj (Option.some.inj hd')
        subst hd'
        refine ⟨_, hw, rfl, _, upd_same, ?_⟩
        have h4 := h3.keep c.keep hdl
        have hv4 : d.is v (upd H2 A (.lst (vs.set j v))) := hd v H2 _ c.keep (d.mono e2 hv1)
        exact h4.set j hv4
      · cases hd'
    · rw [if_neg e] at hd'
      obtain ⟨x, x1, x2⟩ := s2.at' i' d' hd'
      refine ⟨x, x1, ok.get (i := i') (d := d') ?_ _ _ _ c x2⟩
      rw [List.getElem?_set, if_neg e]
      exact hd'
/-- for i, x in enumerate(a tuple) -/
theorem mt_forE {i i2 : Nat} {dsj : Nat → List (Option DP)} (h : EvD te ds (dTup K dl)) (hst : ∀ d ∈ dl, d.Stiff) (h0 : dsj 0 = ds)
    (hs : ∀ j d, dl[j]? = some d → MtD As t (((dsj j).set i (some (dV (.int (j : Int))))).set i2 (some d)) (dsj (j + 1))) :
    MtD As (tFor (iEnumT K (tCons te tNil)) (gTup K 2 (gCons (gName i) (gCons (gName i2) gNil))) t) ds (dsj dl.length) := fun H0 D σ H fr e0 s q =>
  h σ H s _ fun v H1 e1 hv => by
    obtain ⟨a, us, rfl, hS, ha⟩ := hv
    refine ⟨a, us, rfl, hS, ?_⟩
    have hl : us.length = dl.length := ha.length
    refine for_it (walk_enumT (K := K) (a := a) (xs := us)) (fun j σ2 H2 => Same H0 H2 ∧ Keep H1 H2 ∧ Sl σ2 (dsj j) H2) ⟨e0.trans e1, Keep.of_same (Same.refl H1), h0 ▸ s.mono e1⟩ (fun j σ2 H2 _ hp => keep_t hp.2.1 hS) (fun j x σ2 H2 H3 hj hp hy => ?_) (fun σ2 H2 hp => ?_)
    · obtain ⟨T, y, rfl, hT, rfl, hx⟩ := hy
      have ej : dl[j]? = some dl[j] := List.getElem?_eq_getElem (by omega)
      obtain ⟨w', h1, h2⟩ := (ha.keep hp.2.1 hst).get ej
      rw [hx] at h1
      have h1 : y = w' := Option.some.inj h1
      subst h1
      have e3 : Same H2 (upd H2 T (.tup [.int (j : Nat), y])) := same_new hT
      refine ⟨T, [.int (j : Nat), y], rfl, SqT.of upd_same, rfl, _, _, rfl, _, _, rfl, rfl, ?_⟩
      refine hs j _ ej H0 _ _ _ fr (hp.1.trans e3) (((hp.2.2.mono e3).set i rfl).set i2 (DP.mono _ e3 h2)) fun σ3 H4 e4 k4 s4 => ⟨e4, (hp.2.1.trans (Keep.of_same e3)).trans k4, s4⟩
    · rw [hl] at hp
      exact q σ2 H2 hp.1 ((Keep.of_same e1).trans hp.2.1) hp.2.2
/-- for i in range(lo, hi, -1) -/
theorem mt_forD {i : Nat} {lo hi : Int} {dsj : Nat → List (Option DP)} (h : EvA ta ds [dV (.int lo), dV (.int hi), dV (.int (-1))]) (hb : -(2 ^ 61) ≤ lo ∧ lo < 2 ^ 61 ∧ -(2 ^ 61) ≤ hi ∧ hi < 2 ^ 61) (h0 : dsj 0 = ds)
    (hs : ∀ j : Nat, (j : Int) < lo - hi → MtD As t ((dsj j).set i (some (dV (.int (lo - (j : Int)))))) (dsj (j + 1))) :
    MtD As (tFor (iRng3 ta) (gName i) t) ds (dsj (lo - hi).toNat) := fun H0 D σ H fr e0 s q =>
  h σ H s _ fun vs H1 e1 hv => by
    cases hv with
    | cons a1 r1 =>
      cases r1 with
      | cons a2 r2 =>
        cases r2 with
        | cons a3 r3 =>
          cases r3
          cases a1
          cases a2
          cases a3
          refine ⟨lo, hi, -1, (lo - hi).toNat, rfl, RgC.neg (by omega) (by omega) (by omega) (by omega), ?_⟩
          refine for_it (walk_rangeC (lo := lo) (c := -1) (n := (lo - hi).toNat)) (fun j σ2 H2 => Same H0 H2 ∧ Keep H1 H2 ∧ Sl σ2 (dsj j) H2) ⟨e0.trans e1, Keep.of_same (Same.refl H1), h0 ▸ s.mono e1⟩ (fun _ _ _ _ _ => trivial) (fun j x σ2 H2 H3 hj hp hy => ?_) (fun σ2 H2 hp => ?_)
          · obtain ⟨rfl, rfl⟩ := hy
            have e : lo + (j : Nat) * (-1) = lo - (j : Int) := by omega
            exact hs j (by omega) H0 _ _ _ fr hp.1 (hp.2.2.set i (show V.int (lo + (j : Nat) * (-1)) = V.int (lo - (j : Int)) by rw [e])) fun σ3 H4 e4 k4 s4 => ⟨e4, hp.2.1.trans k4, s4⟩
          · exact q σ2 H2 hp.1 ((Keep.of_same e1).trans hp.2.1) hp.2.2
theorem AllIs.rep {d : DP} {v : V} {H : Hp} (h : d.is v H) : ∀ n : Nat, AllIs (List.replicate n d) (List.replicate n v) H
  | 0 => .nil
  | n + 1 => .cons h (AllIs.rep h n)
/-- [x] * n -/
theorem ef_rep {k : Int} (h : EvD te ds (dLsX [d])) (hk : EvD to ds (dV (.int k))) (h0 : 0 ≤ k) (h1 : k ≤ 1000) : EvF (tOp rRep te to) ds (List.replicate k.toNat d) := fun σ H s Q q =>
  h σ H s _ fun v H1 e1 hv => hk σ H1 (s.mono e1) _ fun y H2 e2 hy => by
    cases hy
    obtain ⟨a, vs, rfl, h2, h3⟩ := (dLsX [d]).mono e2 hv
    cases h3 with
    | @cons _ _ x _ _ hx hr =>
      cases hr
      refine ⟨a, k, [x], rfl, rfl, h2, by omega, by omega, ?_, fun p hp => ?_⟩
      · exact Nat.le_of_lt (small1000 (by simp; omega))
      · refine q p _ _ (none_back (e1.trans e2) hp) ((e1.trans e2).trans (same_new hp)) upd_same ?_
        have : (List.replicate k.toNat [x]).flatten = List.replicate k.toNat x := by
          induction k.toNat with
          | zero => rfl
          | succ n ih => rw [List.replicate_succ, List.flatten_cons, ih]; rfl
        rw [this]
        exact (AllIs.rep hx _).mono (same_new hp)
/-- list(a tuple) -/
theorem ef_list {tb : TE} (h : EvD tb ds (dTup K dl)) : EvF (tCB (fun xs H Q => ∃ p ys, xs = [.ref p] ∧ (SqL K H p ys ∨ SqT K H p ys) ∧ ∀ l, H l = none → Q (.ref l) (upd H l (.lst ys))) (tCons tb tNil)) ds dl := fun σ H s Q q =>
  h σ H s _ fun v H1 e1 hv => by
    obtain ⟨a, us, rfl, hS, ha⟩ := hv
    exact ⟨a, us, rfl, .inr hS, fun l hl => q l us _ (none_back e1 hl) (e1.trans (same_new hl)) upd_same (ha.mono (same_new hl))⟩
end
end K65

/-! K65O: rows, the product -/
namespace K65
open PySem PySem.Spec PyProof.Rows L2
/-! ### plain -/
/-- the numbers of p at the places s, s + 1, .. -/
def cl (s : Int) (n : Nat) (p : L) : List Rat := (List.range n).map fun i : Nat => p.co (s + (i : Int))
theorem cl_len (s : Int) (n : Nat) (p : L) : (cl s n p).length = n := by simp [cl]
theorem cl_nth {s : Int} {n : Nat} {p : L} {i : Int} (h0 : 0 ≤ i) (h1 : i < n) : nth (cl s n p) i = p.co (s + i) := by
  unfold nth cl
  rw [if_pos h0, List.getD_eq_getElem?_getD, List.getElem?_map, List.getElem?_range (by omega)]
  show p.co (s + (i.toNat : Int)) = _
  congr 1
  omega
theorem cl_set {s : Int} {n m : Nat} {p : L} {c : Rat} (h : m < n) : (cl s n p).set m (p.co (s + (m : Int)) + c) = cl s n (p + mono (s + (m : Int)) c) := by
  apply List.ext_getElem
  · simp [cl]
  · intro i h1 h2
    have hi : i < n := by simpa [cl] using h2
    rw [List.getElem_set]
    simp only [cl, List.getElem_map, List.getElem_range, co_add, co_mono]
    by_cases e : m = i
    · subst e
      rw [if_pos rfl, if_pos rfl]
    · rw [if_neg e, if_neg (by omega)]
      grind
theorem cl_row {s : Int} {n : Nat} {p : L} (h : In s (s + n) p) : rowL s (cl s n p) = p := by
  have := rowL_range p h
  rw [show (s + (n : Int) - s).toNat = n by omega] at this
  exact this
theorem cl_rep {s : Int} {n : Nat} : cl s n 0 = List.replicate n 0 := by
  apply List.ext_getElem
  · simp [cl]
  · intro i h1 h2
    simp [cl, co_zero]
theorem cl_of_row {r : Row} {p : L} (h : IsRow r p) : cl r.1 r.2.length p = r.2 := by
  apply List.ext_getElem
  · simp [cl]
  · intro i h1 h2
    have := h.get i
    rw [List.getD_eq_getElem?_getD, List.getElem?_eq_getElem h2] at this
    simp only [cl, List.getElem_map, List.getElem_range]
    exact this.symm
/-- the first j numbers of a row, at their places -/
noncomputable def upto (p : L) (j : Nat) : L := rowL (rowOf p).1 ((rowOf p).2.take j)
theorem upto_all (p : L) : upto p (rowOf p).2.length = p := by
  unfold upto
  rw [List.take_length]
  exact (rowOf_is p).2
theorem upto_zero (p : L) : upto p 0 = 0 := rfl
theorem upto_succ {p : L} {j : Nat} {x : Rat} (h : (rowOf p).2[j]? = some x) : upto p (j + 1) = upto p j + mono ((rowOf p).1 + (j : Int)) x := by
  obtain ⟨hj, e⟩ := List.getElem?_eq_some_iff.mp h
  unfold upto
  rw [rowL_take_succ hj, e]
theorem upto_co (p : L) (j : Nat) (k : Int) : (upto p j).co k = if k < (rowOf p).1 + (j : Int) then p.co k else 0 := by
  unfold upto
  rw [co_rowL]
  by_cases e : k < (rowOf p).1 + (j : Int)
  · rw [if_pos e, co_row]
    unfold nth
    by_cases z : 0 ≤ k - (rowOf p).1
    · rw [if_pos z, if_pos z, List.getD_eq_getElem?_getD, List.getD_eq_getElem?_getD, List.getElem?_take, if_pos (by omega)]
    · rw [if_neg z, if_neg z]
  · rw [if_neg e]
    exact nth_out (.inr (by rw [List.length_take]; omega))
theorem upto_in (p : L) (j : Nat) : In (rowOf p).1 ((rowOf p).1 + (rowOf p).2.length) (upto p j) := fun k hk => by
  rw [upto_co] at hk
  split at hk
  · exact row_in p k hk
  · exact absurd rfl hk
theorem upto_hw {m e : Nat} {p : L} (h : Hw m e p) (j : Nat) : Hw m e (upto p j) := ⟨h.1, fun k => by
  rw [upto_co]
  split
  · exact h.2 k
  · exact ⟨0, by grind, Nat.zero_le _⟩⟩
theorem row_at {p : L} {j : Nat} {x : Rat} (h : (rowOf p).2[j]? = some x) : x = p.co ((rowOf p).1 + (j : Int)) := by
  rw [← (rowOf_is p).get j, List.getD_eq_getElem?_getD, h]
  rfl
theorem width_mono {n : Int} {c : Rat} : width (mono n c) ≤ 1 := by
  have : In n (n + 1) (mono n c) := fun k hk => by
    rw [co_mono] at hk
    by_cases e : n = k
    · omega
    · rw [if_neg e] at hk
      exact absurd rfl hk
  have := width_in this (by omega)
  omega
theorem frs_set {K : PySem.W.Frag} {xs : List Rat} {j : Nat} {x : Rat} : (xs.map fun y => dD K (ratD y)).set j (dD K (ratD x)) = (xs.set j x).map fun y => dD K (ratD y) := by
  rw [List.map_set]
theorem frs_stiff {K : PySem.W.Frag} {xs : List Rat} : ∀ d ∈ xs.map (fun y => dD K (ratD y)), d.Stiff := fun d hd => by
  obtain ⟨x, _, rfl⟩ := List.mem_map.mp hd
  exact stiff_rat
theorem lt_of_lt {i : Int} (h : i.natAbs < 1000000) : i.natAbs < 2 ^ 13500 := Nat.lt_trans h (Nat.lt_of_lt_of_le (show 1000000 < 2 ^ 20 by decide) (Nat.pow_le_pow_right (by decide) (by decide)))
theorem ixN_nat {n : Nat} {i : Int} (h0 : 0 ≤ i) (h1 : i < n) : ixN n i = some i.toNat := by
  unfold ixN
  rw [if_pos h0, if_pos h1]
section
variable {P : Program} {w : World} {mg : Str → Option Value} {base : Heap} {K : PySem.W.Frag} {ds : List (Option DP)} {te tl th : TE} {ta : TA}
theorem imp_eq {d d' : DP} (h : d = d') : DP.imp d d' := h ▸ imp_refl
variable (F : Facts K mg)
include F
theorem c_row_scaled : C8.Cal P w K mg base 4 "row_scaled" (spF (fun q : L × Rat => W 400 q.1 ∧ SmL q.1 ∧ Sm q.2) (fun q => [dD K (pD q.1), dD K (ratD q.2)]) (fun q => dD K (pD (L.scale q.2 q.1)))) [] := by
  have crow_by := c_row_by (P := P) (w := w) (base := base) F
  have ctimes := c_times (P := P) (w := w) (base := base) F
  refine fn_ok F.f_row_scaled (N := ["row", "number", "each"]) (C8.fnScope_by (by decide +kernel)) (fun _ => rfl) fun sc cdv A outer s H E f hr => ⟨_, (pss_one (ps_ret (C8.pe_c crow_by hr (by decide) (by rfl) (pa_cons (pe_ix ix_tup (pv 0) pe_int (fun _ _ => rfl)) (pa_cons (pe_lc (own := [("each", 2)]) rfl sc.nd (pi_tup (pe_ix ix_tup (pv 0) pe_int (fun _ _ => rfl))) (blkOk_by (by change blkC ["row", "number", "each"] (C8.fnScope (topS 25)) _ _ = true; decide +kernel)) (fun _ _ _ _ _ => (pg_name (i := 2) sc.nd rfl (by first | exact Or.inl rfl | exact Or.inr rfl))) (fun _ _ _ _ _ => pts_nil) (fun _ _ _ _ _ => (C8.pe_c ctimes hr (by decide) (by rfl) (pa_cons (pv 2) (pa_cons (pv 1) pa_nil))))) pa_nil))))), fun q hq => ?_⟩
  obtain ⟨p, c⟩ := q
  obtain ⟨wp, sp, sc'⟩ := hq
  replace wp : W 400 p := wp
  have b := row_w (by omega) wp
  refine b_ret ((ed_call (callP ((rowOf p).1, (rowOf p).2.map fun x => x * c) trivial) (ea_cons (ed_start (r := rowOf p) (ed_var rfl)) (ea_cons (ed_lcF (ed_nums (r := rowOf p) (ed_var rfl)) (by omega) (by simp) fun x hx => ?_) ea_nil))).imp (imp_eq ?_))
  · obtain ⟨k, rfl⟩ := row_mem hx
    exact ed_call (callP (p.co k, c) ⟨sp k, sc'⟩) (ea_cons (ed_var rfl) (ea_cons (ed_var rfl) ea_nil))
  · show dD K (pD (rowL _ _)) = _
    rw [rowL_scale, (rowOf_is p).2]
theorem c_row_less : C8.Cal P w K mg base 5 "row_less" (spF (fun q : L × L => SbOk q.1 q.2) (fun q => [dD K (pD q.1), dD K (pD q.2)]) (fun q => dD K (pD (q.1 - q.2)))) [] := by
  have crow_sum := c_row_sum (P := P) (w := w) (base := base) F
  have crow_scaled := c_row_scaled (P := P) (w := w) (base := base) F
  refine fn_ok F.f_row_less (N := ["one", "two"]) (C8.fnScope_by (by decide +kernel)) (fun _ => rfl) fun sc cdv A outer s H E f hr => ⟨_, (pss_one (ps_ret (C8.pe_c crow_sum hr (by decide) (by rfl) (pa_cons (pv 0) (pa_cons (C8.pe_c crow_scaled hr (by decide) (by rfl) (pa_cons (pv 1) (pa_cons (pe_tup (pa_cons (pe_un un_neg pe_int) (pa_cons pe_int pa_nil))) pa_nil))) pa_nil))))), fun q hq => ?_⟩
  obtain ⟨p, q⟩ := q
  obtain ⟨wp, wq, sp, sq⟩ := hq
  have e : ∀ k, (L.scale (-1) q).co k = - q.co k := fun k => by rw [co_scale]; grind
  have sm1 : Sm (-1) := ⟨by decide, by decide⟩
  have ok : SbOk p (L.scale (-1) q) := ⟨wp, fun k hk => wq k fun z => hk (by rw [e]; have z : q.co k = 0 := z; rw [z]; rfl), sp, fun k => by
    rw [e]
    obtain ⟨s1, s2⟩ := sq k
    exact ⟨by rw [Rat.neg_num, Int.natAbs_neg]; exact s1, by rw [Rat.neg_den]; exact s2⟩⟩
  refine b_ret ((ed_call (callP (p, L.scale (-1) q) ok) (ea_cons (ed_var rfl) (ea_cons (ed_call (callP (q, -1) ⟨wq, sq, sm1⟩) (ea_cons (ed_var rfl) (ea_cons (ed_tup (xs := [.int (-1), .int 1]) (ea_cons ((un_neg_d ed_v).imp imp_int') (ea_cons (ed_v.imp imp_int') ea_nil)) (by simp)) ea_nil))) ea_nil))).imp (imp_eq ?_))
  show dD K (pD (p + L.scale (-1) q)) = dD K (pD (p - q))
  rw [show p + L.scale (-1) q = p - q from L.eq_of_co fun k => by rw [co_add, e, co_sub]; grind]
theorem c_row_shift : C8.Cal P w K mg base 1 "row_shift" (spF (fun _ : L × Int => True) (fun q => [dD K (pD q.1), dV (.int q.2)]) (fun q => dD K (pD (later q.2 q.1)))) [] := by
  obtain ⟨aNOUGHT, gNOUGHT0, hNOUGHT⟩ := F.g_NOUGHT
  have gNOUGHT : ∃ u, mg "NOUGHT" = some u ∧ RelV (V.ref aNOUGHT) u := ⟨_, gNOUGHT0, rfl⟩
  refine fn_ok F.f_row_shift (N := ["row", "places"]) (C8.fnScope_by (by decide +kernel)) (fun _ => rfl) fun sc cdv A outer s H E f hr => ⟨_, (pss_one (ps_ret (pe_ifExp (pt_cmpR (op_neD hr.units) (pv 0) (C8.pe_gc rfl gNOUGHT) (nomark _)) (pe_tup (pa_cons (pe_op op_add (pe_ix ix_tup (pv 0) pe_int (fun _ _ => rfl)) (pv 1)) (pa_cons (pe_ix ix_tup (pv 0) pe_int (fun _ _ => rfl)) pa_nil))) (C8.pe_gc rfl gNOUGHT)))), fun q hq => ?_⟩
  obtain ⟨p, n⟩ := q
  refine b_ret (ed_if (eb_neN (ed_var rfl) hNOUGHT) (fun e => ?_) (fun e => ?_))
  · have e : p ≠ 0 := isZ_not.mp (by simpa using e)
    unfold pD
    rw [rowOf_later n e]
    exact ed_tup (xs := [.int ((rowOf p).1 + n), fracsD (rowOf p).2]) (ea_cons ((ed_op op_I0 (ed_start (r := rowOf p) (ed_var rfl)) (ed_var rfl)).imp imp_int') (ea_cons (ed_nums (r := rowOf p) (ed_var rfl)) ea_nil)) (by simp)
  · have e : p = 0 := isZ_iff.mp (by simpa using e)
    subst e
    rw [show later n (0 : L) = 0 from later_nought n]
    exact ed_N hNOUGHT
theorem c_part_from : C8.Cal P w K mg base 3 "part_from" (spF (fun q : L × Int => W 400 q.1 ∧ (q.2 = 0 ∨ q.2 = 1)) (fun q => [dD K (pD q.1), dV (.int q.2)]) (fun q => dD K (pD (if q.2 = 0 then even q.1 else odd q.1)))) [] := by
  have crow_by := c_row_by (P := P) (w := w) (base := base) F
  have cat_place := c_at_place (P := P) (w := w) (base := base) F
  have cend_of := c_end_of (P := P) (w := w) (base := base) F
  have mrange := F.m_range
  refine fn_ok F.f_part_from (N := ["row", "first", "low", "high", "at"]) (C8.fnScope_by (by decide +kernel)) (fun _ => rfl) fun sc cdv A outer s H E f hr => ⟨_, (pss_cons (ps_set (i := 2) sc.nd rfl (Or.inl rfl) (pe_op op_fdivX (pe_op op_add (pe_op op_sub (pe_ix ix_tup (pv 0) pe_int (fun _ _ => rfl)) (pv 1)) pe_int) pe_int)) (pss_cons (ps_set (i := 3) sc.nd rfl (Or.inl rfl) (pe_op op_fdivX (pe_op op_add (pe_op op_sub (C8.pe_c cend_of hr (by decide) (by rfl) (pa_cons (pv 0) pa_nil)) (pv 1)) pe_int) pe_int)) (pss_one (ps_ret (C8.pe_c crow_by hr (by decide) (by rfl) (pa_cons (pv 2) (pa_cons (pe_lc (own := [("at", 4)]) rfl sc.nd (pi_range2 (by rfl) mrange (pa_cons (pv 2) (pa_cons (pv 3) pa_nil))) (blkOk_by (by change blkC ["row", "first", "low", "high", "at"] (C8.fnScope (topS 29)) _ _ = true; decide +kernel)) (fun _ _ _ _ _ => (pg_name (i := 4) sc.nd rfl (by first | exact Or.inl rfl | exact Or.inr rfl))) (fun _ _ _ _ _ => pts_nil) (fun _ _ _ _ _ => (C8.pe_c cat_place hr (by decide) (by rfl) (pa_cons (pv 0) (pa_cons (pe_op op_add (pe_op op_mulW pe_int (pv 4)) (pv 1)) pa_nil))))) pa_nil))))))), fun q hq => ?_⟩
  obtain ⟨p, n⟩ := q
  obtain ⟨wp, hn⟩ := hq
  replace wp : W 400 p := wp
  have b := row_w (by omega) wp
  have fd : ∀ z : Int, z.fdiv 2 = z / 2 := fun z => Int.fdiv_eq_ediv_of_nonneg z (by decide)
  refine b_asg (d1 := dV (.int (((rowOf p).1 - n + 1) / 2))) (EvD.to (ed_op (op_I (cdiv_small (by decide) (by decide))) (ed_op op_I0 (ed_op op_I0 (ed_start (ed_var rfl)) (ed_var rfl)) ed_v) ed_v) (by rw [fd])) ?_
  refine b_asg (d1 := dV (.int (((rowOf p).1 + (rowOf p).2.length - n + 1) / 2))) (EvD.to (ed_op (op_I (cdiv_small (by decide) (by decide))) (ed_op op_I0 (ed_op op_I0 (ed_call (callP _ trivial) (ea_cons (ed_var rfl) ea_nil)) (ed_var rfl)) ed_v) ed_v) (by rw [fd])) ?_
  refine b_ret ((ed_call (callP (_, (List.range (((rowOf p).1 + (rowOf p).2.length - n + 1) / 2 - ((rowOf p).1 - n + 1) / 2).toNat).map fun i : Nat => p.co (2 * (((rowOf p).1 - n + 1) / 2 + (i : Int)) + n)) trivial) (ea_cons (ed_var rfl) (ea_cons (ed_lcR2' (ea_cons (ed_var rfl) (ea_cons (ed_var rfl) ea_nil)) (by omega) (by omega) (by simp) fun j hj => ?_) ea_nil))).imp (imp_eq ?_))
  · rw [co_row p]
    exact ed_call (callP (rowOf p, 2 * (((rowOf p).1 - n + 1) / 2 + (j : Int)) + n) trivial) (ea_cons (ed_var rfl) (ea_cons (ed_op op_I0 (ed_mul ed_v (ed_var rfl) (by decide) (lt_of_lt (by omega))) (ed_var rfl)) ea_nil))
  · show dD K (pD (rowL _ _)) = dD K (pD (if n = 0 then even p else odd p))
    rcases hn with z | z
    · replace z : n = 0 := z
      subst z
      have := even_row p (row_in p)
      rw [if_pos rfl]
      simp only [Int.sub_zero, Int.add_zero]
      rw [this]
    · replace z : n = 1 := z
      subst z
      have := odd_row p (row_in p)
      rw [if_neg (by decide), this]
theorem c_even_of : C8.Cal P w K mg base 4 "even_of" (spF (fun q : L => W 400 q) (fun q => [dD K (pD q)]) (fun q => dD K (pD (even q)))) [] := by
  have cpart_from := c_part_from (P := P) (w := w) (base := base) F
  refine fn_ok F.f_even_of (N := ["row"]) (C8.fnScope_by (by decide +kernel)) (fun _ => rfl) fun sc cdv A outer s H E f hr => ⟨_, (pss_one (ps_ret (C8.pe_c cpart_from hr (by decide) (by rfl) (pa_cons (pv 0) (pa_cons pe_int pa_nil))))), fun q hq => ?_⟩
  exact b_ret (ed_call (callP (q, (0 : Int)) ⟨hq, .inl rfl⟩) (ea_cons (ed_var rfl) (ea_cons ed_v ea_nil)))
theorem c_odd_of : C8.Cal P w K mg base 4 "odd_of" (spF (fun q : L => W 400 q) (fun q => [dD K (pD q)]) (fun q => dD K (pD (odd q)))) [] := by
  have cpart_from := c_part_from (P := P) (w := w) (base := base) F
  refine fn_ok F.f_odd_of (N := ["row"]) (C8.fnScope_by (by decide +kernel)) (fun _ => rfl) fun sc cdv A outer s H E f hr => ⟨_, (pss_one (ps_ret (C8.pe_c cpart_from hr (by decide) (by rfl) (pa_cons (pv 0) (pa_cons pe_int pa_nil))))), fun q hq => ?_⟩
  exact b_ret (ed_call (callP (q, (1 : Int)) ⟨hq, .inr rfl⟩) (ea_cons (ed_var rfl) (ea_cons ed_v ea_nil)))
theorem c_spread_out : C8.Cal P w K mg base 2 "spread_out" (spF (fun q : L => W 200 q) (fun q => [dD K (pD q)]) (fun q => dD K (pD (spread q)))) [] := by
  obtain ⟨aNOUGHT, gNOUGHT0, hNOUGHT⟩ := F.g_NOUGHT
  have gNOUGHT : ∃ u, mg "NOUGHT" = some u ∧ RelV (V.ref aNOUGHT) u := ⟨_, gNOUGHT0, rfl⟩
  have crow_by := c_row_by (P := P) (w := w) (base := base) F
  obtain ⟨aZERO, gZERO0, hZERO⟩ := F.g_ZERO
  have gZERO : ∃ u, mg "ZERO" = some u ∧ RelV (V.ref aZERO) u := ⟨_, gZERO0, rfl⟩
  refine fn_ok F.f_spread_out (N := ["row", "found", "each"]) (C8.fnScope_by (by decide +kernel)) (fun _ => rfl) fun sc cdv A outer s H E f hr => ⟨_, (pss_cons (ps_if (pt_cmpR (op_eqD hr.units) (pv 0) (C8.pe_gc rfl gNOUGHT) (nomark _)) (pss_one (ps_ret (C8.pe_gc rfl gNOUGHT))) pss_nil) (pss_cons (ps_set (i := 1) sc.nd rfl (Or.inl rfl) (pe_lst pa_nil)) (pss_cons (ps_for PassesOwn.never rfl (pi_tup (pe_ix ix_tup (pv 0) pe_int (fun _ _ => rfl))) (pg_name (i := 2) sc.nd rfl (Or.inl rfl)) (pss_one (ps_set (i := 1) sc.nd rfl (Or.inl rfl) (pe_op op_cat (pv 1) (pe_lst (pa_cons (pv 2) (pa_cons (C8.pe_gc rfl gZERO) pa_nil))))))) (pss_one (ps_ret (C8.pe_c crow_by hr (by decide) (by rfl) (pa_cons (pe_op op_mulW pe_int (pe_ix ix_tup (pv 0) pe_int (fun _ _ => rfl))) (pa_cons (pv 1) pa_nil)))))))), fun q hq => ?_⟩
  have b := row_w (by omega) hq
  refine b_if (eb_isN (ed_var rfl) hNOUGHT) (fun e => b_ret ?_) (fun e => ?_)
  · have e := isZ_iff.mp e
    subst e
    rw [spread_zero]
    exact ed_N hNOUGHT
  · refine b_asg (ed_lsX ea_nil (by simp)) ?_
    refine b_st (st_forT (dl := (rowOf q).2.map fun x => dD K (ratD x)) (dsj := fun j => [some (dD K (pD q)), some (dLsX ((((rowOf q).2.take j).flatMap fun x => [x, 0]).map fun x => dD K (ratD x))), none]) ((ed_nums (ed_var rfl)).imp imp_fracs) rfl fun j d hd => ?_) ?_
    · rw [List.getElem?_map] at hd
      cases e1 : (rowOf q).2[j]? with
      | none => rw [e1] at hd; cases hd
      | some x =>
        rw [e1] at hd
        have hd : dD K (ratD x) = d := Option.some.inj hd
        subst hd
        have hl : (((rowOf q).2.take j).flatMap fun x => [x, (0 : Rat)]).length ≤ 2 * (rowOf q).2.length := by
          have : ∀ ys : List Rat, (ys.flatMap fun x => [x, (0 : Rat)]).length = 2 * ys.length := fun ys => by
            induction ys with
            | nil => rfl
            | cons y ys ih =>
              rw [List.flatMap_cons, List.length_append, ih]
              simp
              omega
          rw [this, List.length_take]
          omega
        refine st_weak (st_asg (ed_op (op_catX (by simp at hl ⊢; omega)) (ed_var rfl) (ed_lsX (ea_cons (ed_var rfl) (ea_cons (ed_c (d := dD K zeroD) hZERO) ea_nil)) (by simp)))) (fgt_keep ?_)
        have : (((rowOf q).2.take (j + 1)).flatMap fun x => [x, (0 : Rat)]).map (fun x => dD K (ratD x)) = (((rowOf q).2.take j).flatMap fun x => [x, (0 : Rat)]).map (fun x => dD K (ratD x)) ++ [dD K (ratD x), dD K zeroD] := by
          rw [List.take_add_one, e1]
          simp
          rfl
        rw [this]
        exact fgt_keep (fgt_drop fgt_nil)
    · rw [List.length_map]
      refine b_ret ((ed_call (callP (2 * (rowOf q).1, (rowOf q).2.flatMap fun x => [x, 0]) trivial) (ea_cons (ed_mul ed_v (ed_start (ed_var rfl)) (by decide) (lt_of_lt (by omega))) (ea_cons (EvD.imp (ed_var rfl) fun v H h => ?_) ea_nil))).imp (imp_eq ?_))
      · have h := imp_lsX (K := K) v H h
        rw [List.take_length] at h
        exact h
      · show dD K (pD (rowL _ _)) = _
        rw [rowL_spread, (rowOf_is q).2]
theorem c_weave : C8.Cal P w K mg base 5 "weave" (spF (fun q : L × L => W 100 q.1 ∧ W 100 q.2 ∧ SmL q.1 ∧ SmL q.2) (fun q => [dD K (pD q.1), dD K (pD q.2)]) (fun q => dD K (pD (weave q.1 q.2)))) [] := by
  have crow_sum := c_row_sum (P := P) (w := w) (base := base) F
  have cspread_out := c_spread_out (P := P) (w := w) (base := base) F
  have crow_shift := c_row_shift (P := P) (w := w) (base := base) F
  refine fn_ok F.f_weave (N := ["even", "odd"]) (C8.fnScope_by (by decide +kernel)) (fun _ => rfl) fun sc cdv A outer s H E f hr => ⟨_, (pss_one (ps_ret (C8.pe_c crow_sum hr (by decide) (by rfl) (pa_cons (C8.pe_c cspread_out hr (by decide) (by rfl) (pa_cons (pv 0) pa_nil)) (pa_cons (C8.pe_c crow_shift hr (by decide) (by rfl) (pa_cons (C8.pe_c cspread_out hr (by decide) (by rfl) (pa_cons (pv 1) pa_nil)) (pa_cons pe_int pa_nil))) pa_nil))))), fun q hq => ?_⟩
  obtain ⟨p, q⟩ := q
  obtain ⟨wp, wq, sp, sq⟩ := hq
  have s0 : ∀ {x : L}, SmL x → SmL (spread x) := fun h k => by
    rw [co_spread]
    split
    · exact h _
    · exact sm_zero
  have ok : SbOk (spread p) (later 1 (spread q)) := ⟨fun k hk => ?_, fun k hk => ?_, s0 sp, fun k => by rw [co_later]; exact s0 sq _⟩
  · exact b_ret (ed_call (callP (spread p, later 1 (spread q)) ok) (ea_cons (ed_call (callP p (W.mono wp (by omega))) (ea_cons (ed_var rfl) ea_nil)) (ea_cons (ed_call (callP (spread q, (1 : Int)) trivial) (ea_cons (ed_call (callP q (W.mono wq (by omega))) (ea_cons (ed_var rfl) ea_nil)) (ea_cons ed_v ea_nil))) ea_nil)))
  · replace hk : (spread p).co k ≠ 0 := hk
    rw [co_spread] at hk
    split at hk
    · have := wp _ hk
      omega
    · exact absurd rfl hk
  · replace hk : (later 1 (spread q)).co k ≠ 0 := hk
    rw [co_later, co_spread] at hk
    split at hk
    · have := wq _ hk
      omega
    · exact absurd rfl hk
end
end K65

/-! K65Q: the product of rows, their division -/
namespace K65
open PySem PySem.Spec PyProof.Rows L2
theorem sm_neg {x : Rat} (h : Sm x) : Sm (-x) := ⟨by rw [Rat.neg_num, Int.natAbs_neg]; exact h.1, by rw [Rat.neg_den]; exact h.2⟩
theorem cl_set' {s : Int} {n m : Nat} {p q : L} {v : Rat} (h : m < n) (hv : q = p + mono (s + (m : Int)) (v - p.co (s + (m : Int)))) : (cl s n p).set m v = cl s n q := by
  rw [hv, ← cl_set h]
  congr 1
  grind
section
variable {P : Program} {w : World} {mg : Str → Option Value} {base : Heap} {K : PySem.W.Frag} {ds : List (Option DP)} {te tl th : TE} {ta : TA}
variable (F : Facts K mg)
include F
theorem c_row_product : C8.Cal P w K mg base 4 "row_product" (spF (fun q : L × L => PrOk q.1 q.2) (fun q => [dD K (pD q.1), dD K (pD q.2)]) (fun q => dD K (pD (q.1 * q.2)))) [] := by
  obtain ⟨aNOUGHT, gNOUGHT0, hNOUGHT⟩ := F.g_NOUGHT
  have gNOUGHT : ∃ u, mg "NOUGHT" = some u ∧ RelV (V.ref aNOUGHT) u := ⟨_, gNOUGHT0, rfl⟩
  have menumerate := F.m_enumerate
  have crow_by := c_row_by (P := P) (w := w) (base := base) F
  obtain ⟨aZERO, gZERO0, hZERO⟩ := F.g_ZERO
  have gZERO : ∃ u, mg "ZERO" = some u ∧ RelV (V.ref aZERO) u := ⟨_, gZERO0, rfl⟩
  have cplus := c_plus (P := P) (w := w) (base := base) F
  have mlen := F.m_len
  have ctimes := c_times (P := P) (w := w) (base := base) F
  refine fn_ok F.f_row_product (N := ["one", "two", "found", "at", "mine", "place", "its"]) (C8.fnScope_by (by decide +kernel)) (fun _ => rfl) fun sc cdv A outer s H E f hr => ⟨_, (pss_cons (ps_if (PW.pt (pw_or (pt_cmpR (op_eqD hr.units) (pv 0) (C8.pe_gc rfl gNOUGHT) (nomark _)) (pw_or1 (pt_cmpR (op_eqD hr.units) (pv 1) (C8.pe_gc rfl gNOUGHT) (nomark _))))) (pss_one (ps_ret (C8.pe_gc rfl gNOUGHT))) pss_nil) (pss_cons (ps_set (i := 2) sc.nd rfl (Or.inl rfl) (pe_op op_rep (pe_lst (pa_cons (C8.pe_gc rfl gZERO) pa_nil)) (pe_op op_sub (pe_op op_add (pe_callB call_len (by rfl) mlen PySem.boot_len (pa_cons (pe_ix ix_tup (pv 0) pe_int (fun _ _ => rfl)) pa_nil)) (pe_callB call_len (by rfl) mlen PySem.boot_len (pa_cons (pe_ix ix_tup (pv 1) pe_int (fun _ _ => rfl)) pa_nil))) pe_int))) (pss_cons (ps_for PassesOwn.never rfl (pi_enumT (by rfl) menumerate (pa_cons (pe_ix ix_tup (pv 0) pe_int (fun _ _ => rfl)) pa_nil)) (pg_tup rfl (pgs_cons (pg_name (i := 3) sc.nd rfl (Or.inl rfl)) (pgs_cons (pg_name (i := 4) sc.nd rfl (Or.inl rfl)) pgs_nil))) (pss_one (ps_for PassesOwn.never rfl (pi_enumT (by rfl) menumerate (pa_cons (pe_ix ix_tup (pv 1) pe_int (fun _ _ => rfl)) pa_nil)) (pg_tup rfl (pgs_cons (pg_name (i := 5) sc.nd rfl (Or.inl rfl)) (pgs_cons (pg_name (i := 6) sc.nd rfl (Or.inl rfl)) pgs_nil))) (pss_one (ps_asg (C8.pe_c cplus hr (by decide) (by rfl) (pa_cons (pe_ix ix_list (pv 2) (pe_op op_add (pv 3) (pv 5)) (fun _ _ => rfl)) (pa_cons (C8.pe_c ctimes hr (by decide) (by rfl) (pa_cons (pv 4) (pa_cons (pv 6) pa_nil))) pa_nil))) (pg_sub (pv 2) (pe_op op_add (pv 3) (pv 5)) set_list)))))) (pss_one (ps_ret (C8.pe_c crow_by hr (by decide) (by rfl) (pa_cons (pe_op op_add (pe_ix ix_tup (pv 0) pe_int (fun _ _ => rfl)) (pe_ix ix_tup (pv 1) pe_int (fun _ _ => rfl))) (pa_cons (pv 2) pa_nil)))))))), fun q hq => ?_⟩
  obtain ⟨p, q⟩ := q
  replace hq : PrOk p q := hq
  obtain ⟨wp, wq, d, e, d', f', wd, hp, hq, hwd, hdd, hef⟩ := hq
  replace wp : W 200 p := wp
  replace wq : W 200 q := wq
  have bp := row_w (by omega) wp
  have bq := row_w (by omega) wq
  obtain ⟨lam, l1, l2⟩ := hp
  obtain ⟨mu, u1, u2⟩ := hq
  refine b_if (eb_or (eb_isN (ed_var rfl) hNOUGHT) fun _ => eb_isN (ed_var rfl) hNOUGHT) (fun z => b_ret ?_) (fun z => ?_)
  · have : p * q = 0 := by
      rw [Bool.or_eq_true, isZ_iff, isZ_iff] at z
      replace z : p = 0 ∨ q = 0 := z
      rcases z with z | z <;> rw [z] <;> grind
    show EvD _ _ (dD K (pD (p * q)))
    rw [this]
    exact ed_N hNOUGHT
  · rw [Bool.or_eq_false_iff, isZ_not, isZ_not] at z
    have np := (rowOf_is p).ne z.1
    have nq := (rowOf_is q).ne z.2
    have lp : 0 < (rowOf p).2.length := List.length_pos_iff.mpr np.1
    have lq : 0 < (rowOf q).2.length := List.length_pos_iff.mpr nq.1
    generalize hn : (rowOf p).2.length + (rowOf q).2.length - 1 = n at *
    have hnI : ((rowOf p).2.length : Int) + ((rowOf q).2.length : Int) - 1 = n := by omega
    -- the height of what is summed
    have hl : lam * mu ≤ 2 ^ 6500 := by
      refine Nat.le_trans (pow_mul_le l1 u1) (Nat.pow_le_pow_right (by decide) ?_)
      exact hdd
    have wup : ∀ j, width (upto p j) ≤ 2 ^ wd := fun j => by
      have := width_in (upto_in p j) (by omega)
      have : (rowOf p).2.length = width p := row_len (rowOf_is p)
      have hwd : width p ≤ 2 ^ wd := hwd
      omega
    have hsum : ∀ (j k : Nat) (x : Rat), (rowOf p).2[j]? = some x → SmL (upto p j * q + mono ((rowOf p).1 + (j : Int)) x * upto q k) := fun j k x hx => by
      have h1 := (upto_hw l2 j).prod u2 (wup j)
      have hm : Hw lam e (mono ((rowOf p).1 + (j : Int)) x) := by
        rw [row_at hx]
        obtain ⟨z, z1, z2⟩ := l2.2 ((rowOf p).1 + (j : Int))
        exact hw_mono l2.1 z1 z2
      have h2 := hm.prod (upto_hw u2 k) (w := 0) width_mono
      have := h1.add (h2.mono (by omega))
      have hef' : e + f' + wd + 1 ≤ 6500 := hef
      exact this.sm hl (Nat.le_refl _) hef'
    have hmul : ∀ (j k : Nat) (x y : Rat), (rowOf p).2[j]? = some x → (rowOf q).2[k]? = some y → Sm x ∧ Sm y ∧ Sm (x * y) := fun j k x y hx hy => by
      have e1 : x = p.co ((rowOf p).1 + (j : Int)) := row_at hx
      have e2 : y = q.co ((rowOf q).1 + (k : Int)) := row_at hy
      have sp : SmL p := l2.sm (Nat.le_trans l1 (Nat.pow_le_pow_right (by decide) (show d ≤ 6500 by have : d + d' ≤ 6500 := hdd; omega))) (Nat.le_refl _) (by have : e + f' + wd + 1 ≤ 6500 := hef; omega)
      have sq : SmL q := u2.sm (Nat.le_trans u1 (Nat.pow_le_pow_right (by decide) (show d' ≤ 6500 by have : d + d' ≤ 6500 := hdd; omega))) (Nat.le_refl _) (by have : e + f' + wd + 1 ≤ 6500 := hef; omega)
      refine ⟨e1 ▸ sp _, e2 ▸ sq _, ?_⟩
      have hm : Hw lam e (mono 0 x) := by
        obtain ⟨z, z1, z2⟩ := l2.2 ((rowOf p).1 + (j : Int))
        exact hw_mono l2.1 (by rw [e1]; exact z1) z2
      have := (hm.prod u2 (w := 0) width_mono).sm hl (Nat.le_refl _) (by have : e + f' + wd + 1 ≤ 6500 := hef; omega) ((rowOf q).1 + (k : Int))
      rw [co_mono_mul, Int.sub_zero, ← e2] at this
      exact this
    have lnp : EvD _ _ _ := ed_cb (rc_lenD (K := K) (xs := (rowOf p).2.map ratD)) (ea_cons (ed_nums (r := rowOf p) (ds := slots ["one", "two", "found", "at", "mine", "place", "its"] [dD K (pD p), dD K (pD q)]) (ed_var (i := 0) rfl)) ea_nil)
    have lnq : EvD _ _ _ := ed_cb (rc_lenD (K := K) (xs := (rowOf q).2.map ratD)) (ea_cons (ed_nums (r := rowOf q) (ds := slots ["one", "two", "found", "at", "mine", "place", "its"] [dD K (pD p), dD K (pD q)]) (ed_var (i := 1) rfl)) ea_nil)
    rw [List.length_map] at lnp lnq
    refine bd_of (bm_new (ef_rep (k := (n : Int)) (d := dD K zeroD) (ed_lsX (ea_cons (ed_c hZERO) ea_nil) (by simp)) (EvD.to (ed_op op_I0 (ed_op op_I0 lnp lnq) ed_v) (by rw [hnI])) (by omega) (by omega)) fun A => ?_)
    refine bm_mt (mt_forE (dl := (rowOf p).2.map fun x => dD K (ratD x)) (dsj := fun j => [some (dD K (pD p)), some (dD K (pD q)), some (dAt A ((cl ((rowOf p).1 + (rowOf q).1) n (upto p j * q)).map fun x => dD K (ratD x))), none, none, none, none]) ((ed_nums (ed_var rfl)).imp imp_fracs) frs_stiff ?_ fun j d hd => ?_) ?_
    · show [some (dD K (pD p)), some (dD K (pD q)), some (dAt A ((cl ((rowOf p).1 + (rowOf q).1) n (upto p 0 * q)).map fun x => dD K (ratD x))), none, none, none, none] = [some (dD K (pD p)), some (dD K (pD q)), some (dAt A (List.replicate n (dD K zeroD))), none, none, none, none]
      rw [upto_zero, show (0 : L) * q = 0 by grind, cl_rep, List.map_replicate]
      rfl
    · rw [List.getElem?_map] at hd
      cases hx : (rowOf p).2[j]? with
      | none => rw [hx] at hd; cases hd
      | some x =>
        rw [hx] at hd
        have hd : dD K (ratD x) = d := Option.some.inj hd
        subst hd
        have hj : j < (rowOf p).2.length := (List.getElem?_eq_some_iff.mp hx).1
        refine mt_weak (mt_forE (dl := (rowOf q).2.map fun x => dD K (ratD x)) (dsj := fun k => [some (dD K (pD p)), some (dD K (pD q)), some (dAt A ((cl ((rowOf p).1 + (rowOf q).1) n (upto p j * q + mono ((rowOf p).1 + (j : Int)) x * upto q k)).map fun x => dD K (ratD x))), some (dV (.int (j : Int))), some (dD K (ratD x)), none, none]) ((ed_nums (ed_var rfl)).imp imp_fracs) frs_stiff ?_ fun k d hd2 => ?_) ?_
        · rw [upto_zero, show upto p j * q + mono ((rowOf p).1 + (j : Int)) x * 0 = upto p j * q by grind]
          rfl
        · rw [List.getElem?_map] at hd2
          cases hy : (rowOf q).2[k]? with
          | none => rw [hy] at hd2; cases hd2
          | some y =>
            rw [hy] at hd2
            have hd2 : dD K (ratD y) = d := Option.some.inj hd2
            subst hd2
            have hk : k < (rowOf q).2.length := (List.getElem?_eq_some_iff.mp hy).1
            obtain ⟨sx, sy, sxy⟩ := hmul j k x y hx hy
            generalize hX : upto p j * q + mono ((rowOf p).1 + (j : Int)) x * upto q k = X at *
            have sX : SmL X := hX ▸ hsum j k x hx
            have hin : (j : Int) + (k : Int) < (n : Int) := by omega
            have hl2 : ((cl ((rowOf p).1 + (rowOf q).1) n X).map fun x => dD K (ratD x)).length = n := by rw [List.length_map, cl_len]
            have nx : upto p j * q + mono ((rowOf p).1 + (j : Int)) x * upto q (k + 1) = X + mono ((rowOf p).1 + (rowOf q).1 + ((j + k : Nat) : Int)) (x * y) := by
              rw [← hX, upto_succ hy]
              have : mono ((rowOf p).1 + (j : Int)) x * mono ((rowOf q).1 + (k : Int)) y = mono ((rowOf p).1 + (rowOf q).1 + ((j + k : Nat) : Int)) (x * y) := by
                rw [mono_mul]
                congr 1
                omega
              grind
            refine mt_weak (mt_set (A := A) (k := 2) (j := j + k) (i := (j : Int) + (k : Int)) List.mem_cons_self rfl (d := dD K (ratD (X.co ((rowOf p).1 + (rowOf q).1 + ((j + k : Nat) : Int)) + x * y))) (ed_call (callP (_, _) ⟨sX _, sxy⟩) (ea_cons ?_ (ea_cons (ed_call (callP (x, y) ⟨sx, sy⟩) (ea_cons (ed_var rfl) (ea_cons (ed_var rfl) ea_nil))) ea_nil))) rfl (ed_op op_I0 (ed_var rfl) (ed_var rfl)) ?_ stiff_rat frs_stiff ?_) ?_
            · have := ed_op (op_ixLP (K := K) (fr_at (xs := cl ((rowOf p).1 + (rowOf q).1) n X) (i := (j : Int) + (k : Int)) (by omega) (by rw [cl_len]; exact hin))) (ta := tVar 2) (tb := tOp (rI0 fun i j => .int (i + j)) (tVar 3) (tVar 5)) (ds := [some (dD K (pD p)), some (dD K (pD q)), some (dAt A ((cl ((rowOf p).1 + (rowOf q).1) n X).map fun x => dD K (ratD x))), some (dV (.int (j : Int))), some (dD K (ratD x)), some (dV (.int (k : Int))), some (dD K (ratD y))]) ((ed_var rfl).imp imp_at) (ed_op op_I0 (ed_var rfl) (ed_var rfl))
              rw [cl_nth (by omega) hin] at this
              rw [show ((j + k : Nat) : Int) = (j : Int) + (k : Int) by omega]
              exact this
            · rw [hl2, ixN_nat (by omega) hin]
              exact congrArg some (by omega)
            · exact .some (ok_stiff stiff_p) (.some (ok_stiff stiff_p) (.none (.some (ok_stiff stiff_V) (.some (ok_stiff stiff_rat) (.some (ok_stiff stiff_V) (.some (ok_stiff stiff_rat) .nil))))))
            · rw [frs_set, cl_set (by omega), ← nx]
              exact fgt_keep (fgt_keep (fgt_keep (fgt_keep (fgt_keep (fgt_drop (fgt_drop fgt_nil))))))
        · rw [List.length_map, upto_all]
          have : upto p (j + 1) * q = upto p j * q + mono ((rowOf p).1 + (j : Int)) x * q := by
            rw [upto_succ hx]
            grind
          rw [this]
          exact fgt_keep (fgt_keep (fgt_keep (fgt_drop (fgt_drop (fgt_keep (fgt_keep fgt_nil))))))
    · rw [List.length_map, upto_all]
      refine bm_of (b_ret ((ed_call (callP ((rowOf p).1 + (rowOf q).1, cl ((rowOf p).1 + (rowOf q).1) n (p * q)) trivial) (ea_cons (ed_op op_I0 (ed_start (r := rowOf p) (ed_var rfl)) (ed_start (r := rowOf q) (ed_var rfl))) (ea_cons ((ed_var rfl).imp imp_at) ea_nil))).imp (imp_eq ?_)))
      show dD K (pD (rowL _ _)) = _
      rw [cl_row]
      intro k hk
      obtain ⟨i, j, e1, hi, hj⟩ := co_mul_in hk
      have := row_in p i hi
      have := row_in q j hj
      omega
end
end K65

/-! K65S: the division of rows -/
namespace K65
open PySem PySem.Spec PyProof.Rows L2
/-! ### plain -/
def dseq (b : L) (n s0 : Int) (M : Nat) (p : L) : Nat → L × L
  | 0 => (p, 0)
  | j + 1 => ((dseq b n s0 M p j).1 - mono (s0 + ((M - 1 - j : Nat) : Int)) ((dseq b n s0 M p j).1.co (n + s0 + ((M - 1 - j : Nat) : Int)) / b.co n) * b,
      (dseq b n s0 M p j).2 + mono (s0 + ((M - 1 - j : Nat) : Int)) ((dseq b n s0 M p j).1.co (n + s0 + ((M - 1 - j : Nat) : Int)) / b.co n))
theorem dseq_dvl {b : L} {n s0 : Int} {M : Nat} {p : L} : ∀ j : Nat, j ≤ M →
    dvl b n s0 M p = ((dvl b n s0 (M - j) (dseq b n s0 M p j).1).1 + (dseq b n s0 M p j).2, (dvl b n s0 (M - j) (dseq b n s0 M p j).1).2)
  | 0, _ => by
    show dvl b n s0 M p = ((dvl b n s0 M p).1 + 0, (dvl b n s0 M p).2)
    rw [show (dvl b n s0 M p).1 + 0 = (dvl b n s0 M p).1 by grind]
  | j + 1, h => by
    rw [dseq_dvl j (by omega), show M - j = (M - (j + 1)) + 1 by omega]
    have e : M - (j + 1) = M - 1 - j := by omega
    simp only [dvl, dseq, e]
    refine Prod.ext ?_ rfl
    simp only
    grind
theorem dseq_end {b : L} {n s0 : Int} {M : Nat} {p : L} : dvl b n s0 M p = ((dseq b n s0 M p M).2, (dseq b n s0 M p M).1) := by
  rw [dseq_dvl M (Nat.le_refl _), Nat.sub_self]
  simp only [dvl]
  refine Prod.ext ?_ rfl
  simp only
  grind
theorem dseq_ok {b : L} {n s0 : Int} {M : Nat} {p : L} (h : DvOk b n s0 M p) : ∀ j : Nat, j ≤ M → DvOk b n s0 (M - j) (dseq b n s0 M p j).1
  | 0, _ => h
  | j + 1, hj => by
    have ih := dseq_ok h j (by omega)
    rw [show M - j = (M - (j + 1)) + 1 by omega] at ih
    have e : M - (j + 1) = M - 1 - j := by omega
    rw [e] at ih ⊢
    exact ih.2.2.2
theorem dseq_in {b : L} {n s0 a z : Int} {M : Nat} {p : L} (hp : In a z p) (hb : ∀ m : Nat, m < M → In a z (mono (s0 + m) 1 * b)) : ∀ j : Nat, j ≤ M → In a z (dseq b n s0 M p j).1
  | 0, _ => hp
  | j + 1, hj => fun k hk => by
    have hk : ((dseq b n s0 M p j).1 - mono (s0 + ((M - 1 - j : Nat) : Int)) ((dseq b n s0 M p j).1.co (n + s0 + ((M - 1 - j : Nat) : Int)) / b.co n) * b).co k ≠ 0 := hk
    rw [co_sub, co_mono_mul] at hk
    by_cases e : (dseq b n s0 M p j).1.co k = 0
    · refine hb (M - 1 - j) (by omega) k fun y => hk ?_
      rw [co_mono_mul] at y
      have y : b.co (k - (s0 + ((M - 1 - j : Nat) : Int))) = 0 := by grind
      rw [e, y]
      grind
    · exact dseq_in hp hb j (by omega) k e
theorem dseq_in2 {b : L} {n s0 : Int} {M : Nat} {p : L} : ∀ j : Nat, j ≤ M → In s0 (s0 + M) (dseq b n s0 M p j).2
  | 0, _ => fun k hk => absurd (co_zero k) hk
  | j + 1, hj => fun k hk => by
    have hk : ((dseq b n s0 M p j).2 + mono (s0 + ((M - 1 - j : Nat) : Int)) ((dseq b n s0 M p j).1.co (n + s0 + ((M - 1 - j : Nat) : Int)) / b.co n)).co k ≠ 0 := hk
    rw [co_add, co_mono] at hk
    by_cases e : (dseq b n s0 M p j).2.co k = 0
    · by_cases z : s0 + ((M - 1 - j : Nat) : Int) = k
      · omega
      · rw [if_neg z, e] at hk
        exact absurd (by grind) hk
    · exact dseq_in2 j (by omega) k e
/-- places not yet told -/
theorem dseq_low {b : L} {n s0 : Int} {M : Nat} {p : L} : ∀ (j : Nat) (k : Int), j ≤ M → k < s0 + ((M - j : Nat) : Int) → (dseq b n s0 M p j).2.co k = 0
  | 0, k, _, _ => co_zero k
  | j + 1, k, hj, hk => by
    show ((dseq b n s0 M p j).2 + mono (s0 + ((M - 1 - j : Nat) : Int)) _).co k = 0
    rw [co_add, co_mono, if_neg (by omega), dseq_low j k (by omega) (by omega)]
    grind
section
variable {P : Program} {w : World} {mg : Str → Option Value} {base : Heap} {K : PySem.W.Frag} {ds : List (Option DP)} {te tl th : TE} {ta : TA}
theorem bm_new2 {As : List Addr} {i k0 : Nat} {u : TS} {d : DP} {A0 : Addr} {dl dl0 : List DP} (h0 : ds[k0]? = some (some (dAt A0 dl0))) (h : EvF te ds dl) (k : ∀ A, A0 ≠ A → BdM (A :: As) u (ds.set i (some (dAt A dl))) d) : BdM As (tSeq (tAsg te (gName i)) u) ds d := fun H0 D σ H fr e0 s q => by
  obtain ⟨w0, _, _, us, h2, _⟩ := s.at' k0 _ h0
  exact h σ H s _ fun A vs H1 hA e1 hv ha => k A (ne_of_none h2 hA) H0 D _ H1 (fun B hB => by
    rcases List.mem_cons.mp hB with z | z
    · rw [z]
      exact none_back e0 hA
    · exact fr B z) (e0.trans e1) ((s.mono e1).set i ⟨rfl, vs, hv, ha⟩) q
theorem nth_last {xs : List Rat} (h : 0 < xs.length) : atI (xs.map ratD) (-1) = some (ratD (nth xs ((xs.length : Int) - 1))) := by
  unfold atI ixN
  rw [List.length_map, if_neg (by decide), if_pos (by omega)]
  show (xs.map ratD)[(-1 + (xs.length : Int)).toNat]? = _
  rw [List.getElem?_map, List.getElem?_eq_getElem (by omega)]
  unfold nth
  rw [if_pos (by omega), List.getD_eq_getElem?_getD, List.getElem?_eq_getElem (by omega)]
  show some (ratD _) = some (ratD _)
  have : (-1 + (xs.length : Int)).toNat = ((xs.length : Int) - 1).toNat := by omega
  simp only [this]
  rfl
variable (F : Facts K mg)
include F
theorem c_row_divided : C8.Cal P w K mg base 4 "row_divided" (spF (fun q : L × L => DqOk q.1 q.2) (fun q => [dD K (pD q.1), dD K (pD q.2)]) (fun q => dTup K [dD K (pD (dv q.1 q.2).1), dD K (pD (dv q.1 q.2).2)])) [] := by
  have mrange := F.m_range
  have mlist := F.m_list
  have mlen := F.m_len
  obtain ⟨aZERO, gZERO0, hZERO⟩ := F.g_ZERO
  have gZERO : ∃ u, mg "ZERO" = some u ∧ RelV (V.ref aZERO) u := ⟨_, gZERO0, rfl⟩
  have mmax := F.m_max
  have cover := c_over (P := P) (w := w) (base := base) F
  have menumerate := F.m_enumerate
  have crow_by := c_row_by (P := P) (w := w) (base := base) F
  have cminus := c_minus (P := P) (w := w) (base := base) F
  have ctimes := c_times (P := P) (w := w) (base := base) F
  refine fn_ok F.f_row_divided (N := ["one", "two", "left", "many", "found", "shift", "factor", "at", "each"]) (C8.fnScope_by (by decide +kernel)) (fun _ => rfl) fun sc cdv A outer s H E f hr => ⟨_, (pss_cons (ps_par (i := 2) (j := 3) rfl sc.nd rfl rfl (by decide) rfl rfl (pa_cons (pe_callTy call_list_of (by rfl) mlist (by decide +kernel) (pa_cons (pe_ix ix_tup (pv 0) pe_int (fun _ _ => rfl)) pa_nil)) (pa_cons (pe_callB call_len (by rfl) mlen PySem.boot_len (pa_cons (pe_ix ix_tup (pv 1) pe_int (fun _ _ => rfl)) pa_nil)) pa_nil)) (by rfl)) (pss_cons (ps_set (i := 4) sc.nd rfl (Or.inl rfl) (pe_op op_rep (pe_lst (pa_cons (C8.pe_gc rfl gZERO) pa_nil)) (pe_callB (call_max2 rfl) (by rfl) mmax (by decide +kernel) (pa_cons pe_int (pa_cons (pe_op op_add (pe_op op_sub (pe_callB call_len (by rfl) mlen PySem.boot_len (pa_cons (pv 2) pa_nil)) (pv 3)) pe_int) pa_nil))))) (pss_cons (ps_for PassesOwn.never rfl (pi_range3 (by rfl) mrange (pa_cons (pe_op op_sub (pe_callB call_len (by rfl) mlen PySem.boot_len (pa_cons (pv 4) pa_nil)) pe_int) (pa_cons (pe_un un_neg pe_int) (pa_cons (pe_un un_neg pe_int) pa_nil)))) (pg_name (i := 5) sc.nd rfl (Or.inl rfl)) (pss_cons (ps_set (i := 6) sc.nd rfl (Or.inl rfl) (C8.pe_c cover hr (by decide) (by rfl) (pa_cons (pe_ix ix_list (pv 2) (pe_op op_sub (pe_op op_add (pv 5) (pv 3)) pe_int) (fun _ _ => rfl)) (pa_cons (pe_ix ix_tup (pe_ix ix_tup (pv 1) pe_int (fun _ _ => rfl)) (pe_un un_neg pe_int) (fun _ _ => rfl)) pa_nil)))) (pss_cons (ps_asg (pv 6) (pg_sub (pv 4) (pv 5) set_list)) (pss_one (ps_for PassesOwn.never rfl (pi_enumT (by rfl) menumerate (pa_cons (pe_ix ix_tup (pv 1) pe_int (fun _ _ => rfl)) pa_nil)) (pg_tup rfl (pgs_cons (pg_name (i := 7) sc.nd rfl (Or.inl rfl)) (pgs_cons (pg_name (i := 8) sc.nd rfl (Or.inl rfl)) pgs_nil))) (pss_one (ps_asg (C8.pe_c cminus hr (by decide) (by rfl) (pa_cons (pe_ix ix_list (pv 2) (pe_op op_add (pv 5) (pv 7)) (fun _ _ => rfl)) (pa_cons (C8.pe_c ctimes hr (by decide) (by rfl) (pa_cons (pv 6) (pa_cons (pv 8) pa_nil))) pa_nil))) (pg_sub (pv 2) (pe_op op_add (pv 5) (pv 7)) set_list)))))))) (pss_one (ps_ret (pe_tup (pa_cons (C8.pe_c crow_by hr (by decide) (by rfl) (pa_cons (pe_op op_sub (pe_ix ix_tup (pv 0) pe_int (fun _ _ => rfl)) (pe_ix ix_tup (pv 1) pe_int (fun _ _ => rfl))) (pa_cons (pv 4) pa_nil))) (pa_cons (C8.pe_c crow_by hr (by decide) (by rfl) (pa_cons (pe_ix ix_tup (pv 0) pe_int (fun _ _ => rfl)) (pa_cons (pv 2) pa_nil))) pa_nil)))))))), fun q hq => ?_⟩
  obtain ⟨p, q⟩ := q
  replace hq : DqOk p q := hq
  obtain ⟨wp, wq, ne, sp, sq, dok⟩ := hq
  have bp := row_w (by omega) wp
  have bq := row_w (by omega) wq
  have nq := (rowOf_is q).ne ne
  have lq : 0 < (rowOf q).2.length := List.length_pos_iff.mpr nq.1
  have htop : q.co ((rowOf q).1 + (rowOf q).2.length - 1) ≠ 0 := nq.2.2.1
  have hdv : dv p q = dvl q ((rowOf q).1 + (rowOf q).2.length - 1) ((rowOf p).1 - (rowOf q).1) ((rowOf p).2.length + 1 - (rowOf q).2.length) p := rfl
  show BdD _ _ (dTup K [dD K (pD (dv p q).1), dD K (pD (dv p q).2)])
  rw [hdv, dseq_end]
  generalize hs : (rowOf p).1 = s at *
  generalize hs' : (rowOf q).1 = s' at *
  generalize hl : (rowOf p).2.length = len at *
  generalize hl' : (rowOf q).2.length = len' at *
  generalize hM : len + 1 - len' = M at *
  have inq : In s' (s' + len') q := by rw [← hs', ← hl']; exact row_in q
  have inp : In s (s + len) p := by rw [← hs, ← hl]; exact row_in p
  have inl : ∀ j, j ≤ M → In s (s + len) (dseq q (s' + len' - 1) (s - s') M p j).1 := dseq_in inp fun m hm k hk => by
    rw [co_mono_mul] at hk
    have := inq (k - (s - s' + m)) (fun y => hk (by rw [y]; grind))
    omega
  have inf : ∀ j, j ≤ M → In (s - s') (s - s' + M) (dseq q (s' + len' - 1) (s - s') M p j).2 := dseq_in2
  have okj := dseq_ok dok
  have low := dseq_low (b := q) (n := s' + len' - 1) (s0 := s - s') (M := M) (p := p)
  generalize hD : dseq q (s' + len' - 1) (s - s') M p = D at *
  have seq1 : ∀ j, D (j + 1) = ((D j).1 - mono (s - s' + ((M - 1 - j : Nat) : Int)) ((D j).1.co (s' + len' - 1 + (s - s') + ((M - 1 - j : Nat) : Int)) / q.co (s' + len' - 1)) * q, (D j).2 + mono (s - s' + ((M - 1 - j : Nat) : Int)) ((D j).1.co (s' + len' - 1 + (s - s') + ((M - 1 - j : Nat) : Int)) / q.co (s' + len' - 1))) := fun j => by
    rw [← hD]
    rfl
  have lnq : EvD _ _ _ := ed_cb (rc_lenD (K := K) (xs := (rowOf q).2.map ratD)) (ea_cons (ed_nums (r := rowOf q) (ds := slots ["one", "two", "left", "many", "found", "shift", "factor", "at", "each"] [dD K (pD p), dD K (pD q)]) (ed_var (i := 1) rfl)) ea_nil)
  rw [List.length_map, hl'] at lnq
  refine bd_of (bm_par (ef_list (dl := (cl s len p).map fun x => dD K (ratD x)) (EvD.imp (ed_nums (r := rowOf p) (ed_var rfl)) fun v H h => ?_)) lnq fun A => ?_)
  · have := imp_fracs v H h
    rw [← cl_of_row (rowOf_is p), hs, hl] at this
    exact this
  have lnl : EvD _ _ _ := ed_cb (rc_lenL (K := K) (dl := (cl s len p).map fun x => dD K (ratD x))) (ea_cons ((ed_var (ds := [some (dD K (pD p)), some (dD K (pD q)), some (dAt A ((cl s len p).map fun x => dD K (ratD x))), some (dV (.int (len' : Int))), none, none, none, none, none]) (i := 2) rfl).imp imp_at) ea_nil)
  rw [List.length_map, cl_len] at lnl
  refine bm_new2 (k0 := 2) rfl (ef_rep (k := (M : Int)) (d := dD K zeroD) (ed_lsX (ea_cons (ed_c hZERO) ea_nil) (by simp)) (EvD.to (ed_cb rc_max2 (ea_cons ed_v (ea_cons (ed_op op_I0 (ed_op op_I0 lnl (ed_var rfl)) ed_v) ea_nil))) (by congr 1; omega)) (by omega) (by omega)) fun B nAB => ?_
  have lnf : EvD _ _ _ := ed_cb (rc_lenL (K := K) (dl := List.replicate M (dD K zeroD))) (ea_cons ((ed_var (ds := [some (dD K (pD p)), some (dD K (pD q)), some (dAt A ((cl s len p).map fun x => dD K (ratD x))), some (dV (.int (len' : Int))), some (dAt B (List.replicate M (dD K zeroD))), none, none, none, none]) (i := 4) rfl).imp imp_at) ea_nil)
  rw [List.length_replicate] at lnf
  refine bm_mt (mt_forD (lo := (M : Int) - 1) (hi := -1) (dsj := fun j => [some (dD K (pD p)), some (dD K (pD q)), some (dAt A ((cl s len (D j).1).map fun x => dD K (ratD x))), some (dV (.int (len' : Int))), some (dAt B ((cl (s - s') M (D j).2).map fun x => dD K (ratD x))), none, none, none, none]) (ea_cons (ed_op op_I0 lnf ed_v) (ea_cons (un_neg_d ed_v) (ea_cons (un_neg_d ed_v) ea_nil))) (by omega) ?_ fun j hj => ?_) ?_
  · have e1 : (D 0).1 = p := by rw [← hD]; rfl
    have e2 : (D 0).2 = 0 := by rw [← hD]; rfl
    show [some (dD K (pD p)), some (dD K (pD q)), some (dAt A ((cl s len (D 0).1).map fun x => dD K (ratD x))), some (dV (.int (len' : Int))), some (dAt B ((cl (s - s') M (D 0).2).map fun x => dD K (ratD x))), none, none, none, none] = _
    rw [e1, e2, cl_rep, List.map_replicate]
    rfl
  · have hjM : j < M := by omega
    have ok1 := okj j (by omega)
    rw [show M - j = (M - 1 - j) + 1 by omega] at ok1
    obtain ⟨sl, sf, sfq, _⟩ := ok1
    have hsh : (M : Int) - 1 - (j : Int) = ((M - 1 - j : Nat) : Int) := by omega
    have lowj := fun k => low j k (by omega)
    have inlj := inl j (by omega)
    show MtD [B, A] _ [some (dD K (pD p)), some (dD K (pD q)), some (dAt A ((cl s len (D j).1).map fun x => dD K (ratD x))), some (dV (.int (len' : Int))), some (dAt B ((cl (s - s') M (D j).2).map fun x => dD K (ratD x))), some (dV (.int ((M : Int) - 1 - (j : Int)))), none, none, none] [some (dD K (pD p)), some (dD K (pD q)), some (dAt A ((cl s len (D (j + 1)).1).map fun x => dD K (ratD x))), some (dV (.int (len' : Int))), some (dAt B ((cl (s - s') M (D (j + 1)).2).map fun x => dD K (ratD x))), none, none, none, none]
    rw [seq1 j, hsh]
    generalize hm : M - 1 - j = m at *
    generalize hf : (D j).1.co (s' + len' - 1 + (s - s') + (m : Int)) / q.co (s' + len' - 1) = fc at *
    generalize hlj : (D j).1 = l at *
    generalize hFj : (D j).2 = Fj at *
    have hb1 : (m : Int) + (len' : Int) - 1 < (len : Int) := by omega
    -- factor = over(left[shift + many - 1], two[1][-1])
    refine mt_seq (mt_of (st_asg (d1 := dD K (ratD fc)) ?_)) (mt_seq (mt_set (A := B) (k := 4) (j := m) (i := (m : Int)) List.mem_cons_self rfl (d := dD K (ratD fc)) (ed_var rfl) rfl (ed_var rfl) ?_ stiff_rat frs_stiff ?_) ?_)
    · rw [← hf]
      refine ed_call (callP (_, _) ⟨sl _, sq _, htop⟩) (ea_cons ?_ (ea_cons ?_ ea_nil))
      · have := ed_op (op_ixLP (K := K) (fr_at (xs := cl s len l) (i := (m : Int) + (len' : Int) - 1) (by omega) (by rw [cl_len]; exact hb1))) (ta := tVar 2) (tb := tOp (rI0 fun i j => .int (i - j)) (tOp (rI0 fun i j => .int (i + j)) (tVar 5) (tVar 3)) (tC (.int 1))) (ds := [some (dD K (pD p)), some (dD K (pD q)), some (dAt A ((cl s len l).map fun x => dD K (ratD x))), some (dV (.int (len' : Int))), some (dAt B ((cl (s - s') M Fj).map fun x => dD K (ratD x))), some (dV (.int (m : Int))), none, none, none]) ((ed_var rfl).imp imp_at) (ed_op op_I0 (ed_op op_I0 (ed_var rfl) (ed_var rfl)) ed_v)
        rw [cl_nth (by omega) hb1, show s + ((m : Int) + (len' : Int) - 1) = s' + len' - 1 + (s - s') + (m : Int) by omega] at this
        exact this
      · have e1 : q.co (s' + len' - 1) = nth (rowOf q).2 (((rowOf q).2.length : Int) - 1) := by
          rw [co_row q, hl', hs']
          congr 1
          omega
        show EvD _ _ (dD K (ratD (q.co (s' + len' - 1))))
        rw [e1]
        exact ed_op (op_ixT (nth_last (by omega))) (ed_nums (r := rowOf q) (ed_var rfl)) (un_neg_d ed_v)
    · rw [List.length_map, cl_len, ixN_nat (by omega) (by omega)]
      exact congrArg some (by omega)
    · exact .some (ok_stiff stiff_p) (.some (ok_stiff stiff_p) (.some (ok_at nAB frs_stiff) (.some (ok_stiff stiff_V) (.none (.some (ok_stiff stiff_V) (.some (ok_stiff stiff_rat) (.none (.none .nil))))))))
    · have eF : (cl (s - s') M Fj).set m fc = cl (s - s') M (Fj + mono (s - s' + (m : Int)) fc) := by
        refine cl_set' (by omega) ?_
        rw [lowj _ (by omega)]
        congr 2
        grind
      rw [frs_set, eF]
      refine mt_weak (mt_forE (dl := (rowOf q).2.map fun x => dD K (ratD x)) (dsj := fun k => [some (dD K (pD p)), some (dD K (pD q)), some (dAt A ((cl s len (l - mono (s - s' + (m : Int)) fc * upto q k)).map fun x => dD K (ratD x))), some (dV (.int (len' : Int))), some (dAt B ((cl (s - s') M (Fj + mono (s - s' + (m : Int)) fc)).map fun x => dD K (ratD x))), some (dV (.int (m : Int))), some (dD K (ratD fc)), none, none]) ((ed_nums (ed_var rfl)).imp imp_fracs) frs_stiff ?_ fun k d hd2 => ?_) ?_
      · rw [upto_zero, show l - mono (s - s' + (m : Int)) fc * 0 = l by grind]
        rfl
      · rw [List.getElem?_map] at hd2
        cases hy : (rowOf q).2[k]? with
        | none => rw [hy] at hd2; cases hd2
        | some y =>
          rw [hy] at hd2
          have hd2 : dD K (ratD y) = d := Option.some.inj hd2
          subst hd2
          have hk : k < len' := by rw [← hl']; exact (List.getElem?_eq_some_iff.mp hy).1
          have ey := row_at hy
          rw [hs'] at ey
          have hin : (m : Int) + (k : Int) < (len : Int) := by omega
          have eX : (l - mono (s - s' + (m : Int)) fc * upto q k).co (s + ((m : Int) + (k : Int))) = l.co (s + ((m : Int) + (k : Int))) := by
            rw [co_sub, co_mono_mul, upto_co, hs', if_neg (by omega)]
            grind
          have nx : l - mono (s - s' + (m : Int)) fc * upto q (k + 1) = (l - mono (s - s' + (m : Int)) fc * upto q k) + mono (s + ((m + k : Nat) : Int)) (l.co (s + ((m : Int) + (k : Int))) - fc * y - (l - mono (s - s' + (m : Int)) fc * upto q k).co (s + ((m + k : Nat) : Int))) := by
            rw [upto_succ hy, hs', show ((m + k : Nat) : Int) = (m : Int) + (k : Int) by omega, eX]
            have e3 : mono (s - s' + (m : Int)) fc * mono (s' + (k : Int)) y = mono (s + ((m : Int) + (k : Int))) (fc * y) := by
              rw [mono_mul]
              congr 1
              omega
            have e4 : mono (s + ((m : Int) + (k : Int))) (l.co (s + ((m : Int) + (k : Int))) - fc * y - l.co (s + ((m : Int) + (k : Int)))) = - mono (s + ((m : Int) + (k : Int))) (fc * y) := L.eq_of_co fun i => by
              rw [co_neg, co_mono, co_mono]
              split <;> grind
            rw [e4]
            grind
          refine mt_weak (mt_set (A := A) (k := 2) (j := m + k) (i := (m : Int) + (k : Int)) (by simp) rfl (d := dD K (ratD (l.co (s + ((m : Int) + (k : Int))) - fc * y))) (ed_call (callP (_, _) ⟨sl _, by rw [ey]; exact sfq _⟩) (ea_cons ?_ (ea_cons (ed_call (callP (fc, y) ⟨sf, by rw [ey]; exact sq _⟩) (ea_cons (ed_var rfl) (ea_cons (ed_var rfl) ea_nil))) ea_nil))) rfl (ed_op op_I0 (ed_var rfl) (ed_var rfl)) ?_ stiff_rat frs_stiff ?_) ?_
          · have := ed_op (op_ixLP (K := K) (fr_at (xs := cl s len (l - mono (s - s' + (m : Int)) fc * upto q k)) (i := (m : Int) + (k : Int)) (by omega) (by rw [cl_len]; exact hin))) (ta := tVar 2) (tb := tOp (rI0 fun i j => .int (i + j)) (tVar 5) (tVar 7)) (ds := [some (dD K (pD p)), some (dD K (pD q)), some (dAt A ((cl s len (l - mono (s - s' + (m : Int)) fc * upto q k)).map fun x => dD K (ratD x))), some (dV (.int (len' : Int))), some (dAt B ((cl (s - s') M (Fj + mono (s - s' + (m : Int)) fc)).map fun x => dD K (ratD x))), some (dV (.int (m : Int))), some (dD K (ratD fc)), some (dV (.int (k : Int))), some (dD K (ratD y))]) ((ed_var rfl).imp imp_at) (ed_op op_I0 (ed_var rfl) (ed_var rfl))
            rw [cl_nth (by omega) hin, eX] at this
            exact this
          · rw [List.length_map, cl_len, ixN_nat (by omega) hin]
            exact congrArg some (by omega)
          · exact .some (ok_stiff stiff_p) (.some (ok_stiff stiff_p) (.none (.some (ok_stiff stiff_V) (.some (ok_at nAB.symm frs_stiff) (.some (ok_stiff stiff_V) (.some (ok_stiff stiff_rat) (.some (ok_stiff stiff_V) (.some (ok_stiff stiff_rat) .nil))))))))
          · rw [frs_set, cl_set' (by omega) nx]
            exact fgt_keep (fgt_keep (fgt_keep (fgt_keep (fgt_keep (fgt_keep (fgt_keep (fgt_drop (fgt_drop fgt_nil))))))))
      · rw [List.length_map, upto_all]
        exact fgt_keep (fgt_keep (fgt_keep (fgt_keep (fgt_keep (fgt_drop (fgt_drop (fgt_keep (fgt_keep fgt_nil))))))))
  · rw [show ((M : Int) - 1 - -1).toNat = M by omega]
    refine bm_of (b_ret (ed_tupP (ea_cons ((ed_call (callP (s - s', cl (s - s') M (D M).2) trivial) (ea_cons (EvD.to (ed_op op_I0 (ed_start (r := rowOf p) (ed_var rfl)) (ed_start (r := rowOf q) (ed_var rfl))) (by rw [hs, hs'])) (ea_cons ((ed_var rfl).imp imp_at) ea_nil))).imp (imp_eq ?_)) (ea_cons ((ed_call (callP (s, cl s len (D M).1) trivial) (ea_cons (EvD.to (ed_start (r := rowOf p) (ed_var rfl)) (by rw [hs])) (ea_cons ((ed_var rfl).imp imp_at) ea_nil))).imp (imp_eq ?_)) ea_nil)) (by simp)))
    · show dD K (pD (rowL _ _)) = _
      rw [cl_row (inf M (Nat.le_refl _))]
    · show dD K (pD (rowL _ _)) = _
      rw [cl_row (inl M (Nat.le_refl _))]
theorem c_row_quotient0 : C8.Cal P w K mg base 5 "row_quotient" (spF (fun q : L × L => DqOk q.1 q.2) (fun q => [dD K (pD q.1), dD K (pD q.2)]) (fun q => dD K (if isZ (dv q.1 q.2).2 then pD (dv q.1 q.2).1 else .none))) [] := by
  have crow_divided := c_row_divided (P := P) (w := w) (base := base) F
  obtain ⟨aNOUGHT, gNOUGHT0, hNOUGHT⟩ := F.g_NOUGHT
  have gNOUGHT : ∃ u, mg "NOUGHT" = some u ∧ RelV (V.ref aNOUGHT) u := ⟨_, gNOUGHT0, rfl⟩
  refine fn_ok F.f_row_quotient (N := ["one", "two", "found", "rest"]) (C8.fnScope_by (by decide +kernel)) (fun _ => rfl) fun sc cdv A outer s H E f hr => ⟨_, (pss_cons (ps_asg (C8.pe_c crow_divided hr (by decide) (by rfl) (pa_cons (pv 0) (pa_cons (pv 1) pa_nil))) (pg_tup rfl (pgs_cons (pg_name (i := 2) sc.nd rfl (Or.inl rfl)) (pgs_cons (pg_name (i := 3) sc.nd rfl (Or.inl rfl)) pgs_nil)))) (pss_one (ps_ret (pe_ifExp (pt_cmpR (op_eqD hr.units) (pv 3) (C8.pe_gc rfl gNOUGHT) (nomark _)) (pv 2) pe_non)))), fun q hq => ?_⟩
  refine b_tup2 (ed_call (callP q hq) (ea_cons (ed_var rfl) (ea_cons (ed_var rfl) ea_nil))) (b_ret (ed_if (eb_isN (ed_var rfl) hNOUGHT) (fun e => ?_) (fun e => ?_)))
  · rw [if_pos e]
    exact ed_var rfl
  · rw [if_neg (by rw [e]; decide)]
    exact ed_c fun H => .non
end
end K65

/-! K65T: what is checked; splitters -/
namespace K65
open PySem PySem.Spec PyProof.Rows L2
/-- a thing or None -/
noncomputable def optP : Option L → PyData
  | none => .none
  | some p => pD p
noncomputable def optPair : Option (L × L) → PyData
  | none => .none
  | some q => pairD q.1 q.2
noncomputable def quo (p q : L) : Option L := if isZ (dv p q).2 then some (dv p q).1 else none
theorem shaped_fracs (xs : List Rat) : SeqAt.shaped (fracsD xs) = true := shaped_of (lay_rats xs) (by
  show PyData.depthAll (xs.map ratD) + 1 ≤ 64
  have := depth_rats xs
  omega)
theorem quo_of_row {p q : L} : (if isZ (dv p q).2 then pD (dv p q).1 else PyData.none) = optP (quo p q) := by
  unfold quo
  split <;> rfl
section
variable {P : Program} {w : World} {mg : Str → Option Value} {base : Heap} {K : PySem.W.Frag} {ds ds' ds1 : List (Option DP)} {te tl th : TE} {ta : TA} {tt : TT} {t u : TS} {d d1 d2 : DP} {dl : List DP}
theorem rc_isInt {i : Int} : RcP (rIsi K) [dV (.int i), dV (.ty "int")] (dV (.bl true)) := fun vs H h Q q => by
  cases h with
  | cons h1 h2 => cases h2 with
    | cons h3 h4 =>
      cases h4
      cases h1
      cases h3
      exact ⟨_, _, _, _, true, rfl, .ty "int", .base (.int i), kit_ty (by decide), q _ H (Same.refl H) rfl⟩
theorem rc_isBool {i : Int} : RcP (rIsi K) [dV (.int i), dV (.ty "bool")] (dV (.bl false)) := fun vs H h Q q => by
  cases h with
  | cons h1 h2 => cases h2 with
    | cons h3 h4 =>
      cases h4
      cases h1
      cases h3
      exact ⟨_, _, _, _, false, rfl, .ty "bool", .base (.int i), kit_ty (by decide), q _ H (Same.refl H) rfl⟩
theorem tyx_tup {H : Hp} {a : Addr} {xs : List V} (h : SqT K H a xs) : TyX K H (.ref a) (.type "tuple") := by
  rcases h with (h | ⟨o, h⟩) | ⟨o, its, n, h1, h2, _⟩
  · exact .base (.tup h)
  · exact .fTuple h
  · exact .kTuple h1 h2
theorem rc_isTup : RcP (rIsi K) [dTup K dl, dV (.ty "tuple")] (dV (.bl true)) := fun vs H h Q q => by
  cases h with
  | cons h1 h2 => cases h2 with
    | cons h3 h4 =>
      cases h4
      obtain ⟨a, us, rfl, hS, _⟩ := h1
      cases h3
      exact ⟨_, _, _, _, true, rfl, .ty "tuple", tyx_tup hS, kit_ty (by decide), q _ H (Same.refl H) rfl⟩
theorem ed_isTup {xs : List PyData} (h : EvD te ds (dD K (.tuple xs))) : EvD (tCB (rIsi K) (tCons te (tCons (tC (.ty "tuple")) tNil))) ds (dV (.bl true)) :=
  ed_cb rc_isTup (ea_cons (h.imp imp_tup') (ea_cons ed_v ea_nil))
theorem ed_len {xs : List PyData} (h : EvD te ds (dD K (.tuple xs))) : EvD (tCB (fun xs H Q => ∃ x n, xs = [x] ∧ LenV K x H n ∧ Q (.int n) H) (tCons te tNil)) ds (dV (.int xs.length)) := ed_cb rc_lenD (ea_cons h ea_nil)
theorem st_of_mt (h : MtD [] t ds ds') : StD t ds ds' := fun D σ H s q => h H D σ H (fun _ h => nomatch h) (Same.refl H) s fun σ' H' e _ s' => q σ' H' e s'
theorem b_drop' (h : EvD te ds d1) (k : BdD u ds d) : BdD (tSeq (tDrop te) u) ds d := b_drop h k
/-- a def without a return -/
theorem fn_okN {α : Type} {pre : α → Prop} {dl : α → List DP} {x : Str} {i : Nat} {ps N : List Str} {k : Nat} (F : FnF K mg x i ps) (S : FnScope N ps (C8.fnScope (topS i))) (hl : ∀ a, (dl a).length = ps.length)
    (body : FnScope N ps (C8.fnScope (topS i)) → ∀ (cdv : Value) (A : Around) (outer : List Env) (s : Shared) (H : Hp) (E : XK) (f : Addr), Room k (A.deeper (envOfC x (C8.fnScope (topS i)) s.heap.objs.size f cdv)) →
      ∃ t, PSs (cxOf C8.CX0 P w K mg base N x (C8.fnScope (topS i)) f cdv A outer s H E).nox (C8.fnBody (topS i)) t ∧ ∀ a, pre a → ∃ ds', StD t (slots N (dl a)) ds') : C8.Cal P w K mg base (k + 1) x (spF pre dl fun _ => dV .non) [] := by
  obtain ⟨f, fd, D, b⟩ := F.ex
  refine C8.cal0 D b .nil S (fun vs H Q E h => ?_) (fun cdv A outer s H vs Q E hr h => ?_)
  · obtain ⟨a, _, h1, _⟩ := h
    rw [h1.length, hl]
  · obtain ⟨t, h1, h2⟩ := body S cdv A outer s H E f hr
    refine ⟨t, h1, ?_⟩
    obtain ⟨a, hp, ha, q⟩ := h
    obtain ⟨ds', st⟩ := h2 a hp
    exact st { nx := fun _ H' => Q .non H', rt := Q } _ H (sl_start ha) fun σ' H' e _ => q _ H' e rfl
theorem eb_isNone {o : Option L} (h : EvD te ds (dD K (optP o))) : EvB (tTest (tOp (fun x y H Q => y = .non ∧ Q (.bl (decide (x = .non))) H) te (tC .non))) ds o.isNone := fun σ H s Q q =>
  h σ H s _ fun v H1 e1 hv => ⟨rfl, _, rfl, by
    cases o with
    | none =>
      cases hv
      exact q H1 e1
    | some p =>
      have : decide (v = V.non) = false := decide_eq_false fun z => by
        subst z
        cases hv
      rw [this]
      exact q H1 e1⟩
theorem op_inN {xs : List PyData} (hs : SeqAt.shaped (.list xs) = true) : OpP (rInD K) (dV .non) (dD K (.list xs)) (dV (.bl (xs.any fun z => PyData.eqv z .none))) := fun x y H hx hy Q q => by
  cases hx
  exact ⟨.none, xs, .non, hy, rfl, hs, q _ H (Same.refl H) rfl⟩
theorem ed_allF {xs : List Rat} {i : Nat} {vs : List Nat} {te' : TE} (h : EvD te ds (dD K (fracsD xs))) (hn : xs.length ≤ 1000) (hi' : i ∈ vs) (he : ∀ x ∈ xs, EvD te' ((wipeD ds vs).set i (some (dD K (ratD x)))) (dV (.bl true))) :
    EvD (tCB (rAll K) (tCons (tLc (iTup K te) (gName i) tYes te' vs) tNil)) ds (dV (.bl true)) := by
  have := ed_lcT (K := K) (dl := xs.map fun x => dD K (ratD x)) (f := fun _ => dV (.bl true)) (p := fun _ => true) (h.imp imp_fracs) (by rw [List.length_map]; exact hn) hi' (fun _ _ _ => eb_yes) (te' := te') (fun j d hd _ => ?_) (fun _ _ _ _ => stiff_V)
  · rw [all_true, List.length_map] at this
    have e : ((List.range xs.length).map fun _ => dV (.bl true)) = (List.replicate xs.length true).map fun b => dV (.bl b) := by
      rw [List.map_replicate, List.map_const', List.length_range]
    rw [e] at this
    have := ed_cb (rc_all (K := K) (bs := List.replicate xs.length true)) (ea_cons this ea_nil)
    have e2 : (List.replicate xs.length true).all id = true := by simp
    rw [e2] at this
    exact this
  · rw [List.getElem?_map] at hd
    cases e : xs[j]? with
    | none => rw [e] at hd; cases hd
    | some x =>
      rw [e] at hd
      have hd : dD K (ratD x) = d := Option.some.inj hd
      subst hd
      exact he x (List.mem_of_getElem? e)
variable (F : Facts K mg)
include F
theorem c_row_quotient : C8.Cal P w K mg base 5 "row_quotient" (spF (fun q : L × L => DqOk q.1 q.2) (fun q => [dD K (pD q.1), dD K (pD q.2)]) (fun q => dD K (optP (quo q.1 q.2)))) [] := by
  have := c_row_quotient0 (P := P) (w := w) (base := base) F
  simp only [quo_of_row] at this
  exact this
theorem c_is_whole : C8.Cal P w K mg base 1 "is_whole" (spF (fun _ : Int => True) (fun q => [dV (.int q)]) (fun q => dV (.bl true))) [] := by
  have misinstance := F.m_isinstance
  have mint := F.m_int
  have mbool := F.m_bool
  refine fn_ok F.f_is_whole (N := ["value"]) (C8.fnScope_by (by decide +kernel)) (fun _ => rfl) fun sc cdv A outer s H E f hr => ⟨_, (pss_one (ps_ret (pe_and (pe_callB call_isi (by rfl) misinstance (by decide +kernel) (pa_cons (pv 0) (pa_cons (pe_bltn (v := .ty "int") (by rfl) mint (by decide +kernel) rfl) pa_nil))) (pe_one (pe_not (pe_callB call_isi (by rfl) misinstance (by decide +kernel) (pa_cons (pv 0) (pa_cons (pe_bltn (v := .ty "bool") (by rfl) mbool (by decide +kernel) rfl) pa_nil)))))))), fun q hq => ?_⟩
  exact b_ret (ed_andV (b1 := true) (b2 := true) (ed_cb rc_isInt (ea_cons (ed_var rfl) (ea_cons ed_v ea_nil))) fun _ => ed_notV (b1 := false) (ed_cb rc_isBool (ea_cons (ed_var rfl) (ea_cons ed_v ea_nil))))
theorem c_are_wholes : C8.Cal P w K mg base 2 "are_wholes" (spF (fun _ : Rat => True) (fun q => [dD K (ratD q), dV (.int 2)]) (fun q => dV (.bl true))) [] := by
  have misinstance := F.m_isinstance
  have mtuple := F.m_tuple
  have mall := F.m_all
  have mlen := F.m_len
  have cis_whole := c_is_whole (P := P) (w := w) (base := base) F
  refine fn_ok F.f_are_wholes (N := ["value", "many", "each"]) (C8.fnScope_by (by decide +kernel)) (fun _ => rfl) fun sc cdv A outer s H E f hr => ⟨_, (pss_one (ps_ret (pe_and (pe_callB call_isi (by rfl) misinstance (by decide +kernel) (pa_cons (pv 0) (pa_cons (pe_bltn (v := .ty "tuple") (by rfl) mtuple (by decide +kernel) rfl) pa_nil))) (pe_and (pe_cmpR op_eq (pe_callB call_len (by rfl) mlen PySem.boot_len (pa_cons (pv 0) pa_nil)) (pv 1) (nomark _)) (pe_one (pe_callB (cr_all rfl) (by rfl) mall (by decide +kernel) (pa_cons (pe_lc (own := [("each", 2)]) rfl sc.nd (pi_tup (pv 0)) (blkOk_by (by change blkC ["value", "many", "each"] (C8.fnScope (topS 7)) _ _ = true; decide +kernel)) (fun _ _ _ _ _ => (pg_name (i := 2) sc.nd rfl (by first | exact Or.inl rfl | exact Or.inr rfl))) (fun _ _ _ _ _ => pts_nil) (fun _ _ _ _ _ => (C8.pe_c cis_whole hr (by decide) (by rfl) (pa_cons (pv 2) pa_nil)))) pa_nil))))))), fun q hq => ?_⟩
  refine b_ret (ed_andV (b1 := true) (b2 := true) (ed_isTup (xs := [.int q.num, .int q.den]) (ed_var rfl)) fun _ => ed_andV (b1 := true) (b2 := true) (EvD.to (ed_op (op_eqV (by rfl)) (ed_len (xs := [.int q.num, .int q.den]) (ed_var rfl)) (ed_var rfl)) rfl) fun _ => ?_)
  have := ed_lcT (K := K) (dl := [dV (.int q.num), dV (.int q.den)]) (i := 2) (vs := [2]) (p := fun _ => true) (f := fun _ => dV (.bl true)) (tt := tYes) (te' := tCall (spF (fun _ : Int => True) (fun q => [dV (.int q)]) (fun q => dV (.bl true))) [] C8.E0 (tCons (tVar 2) tNil)) (ds := slots ["value", "many", "each"] [dD K (ratD q), dV (.int 2)]) (te := tVar 0)
    (EvD.imp (ed_var rfl) fun v H h => by
      obtain ⟨a, vs, h1, h2, h3⟩ := imp_tup' (K := K) (xs := [.int q.num, .int q.den]) v H h
      refine ⟨a, vs, h1, h2, ?_⟩
      cases h3 with
      | cons a1 r1 => cases r1 with
        | cons a2 r2 =>
          cases r2
          exact .cons (imp_int _ _ a1) (.cons (imp_int _ _ a2) .nil)) (by simp) (by simp) (fun _ _ _ => eb_yes) (fun j d hd _ => by
      match j, hd with
      | 0, hd =>
        have e : dV (.int q.num) = d := Option.some.inj hd
        subst e
        exact ed_call (callP q.num trivial) (ea_cons (ed_var rfl) ea_nil)
      | 1, hd =>
        have e : dV (.int q.den) = d := Option.some.inj hd
        subst e
        exact ed_call (callP (q.den : Int) trivial) (ea_cons (ed_var rfl) ea_nil)
      | j + 2, hd => simp at hd) (fun _ _ _ _ => stiff_V)
  exact ed_cb (rc_all (bs := [true, true])) (ea_cons this ea_nil)
theorem c_is_ratio : C8.Cal P w K mg base 3 "is_ratio" (spF (fun _ : Rat => True) (fun q => [dD K (ratD q)]) (fun q => dV (.bl true))) [] := by
  have care_wholes := c_are_wholes (P := P) (w := w) (base := base) F
  have cdivisor_of := c_divisor_of (P := P) (w := w) (base := base) F
  refine fn_ok F.f_is_ratio (N := ["value"]) (C8.fnScope_by (by decide +kernel)) (fun _ => rfl) fun sc cdv A outer s H E f hr => ⟨_, (pss_one (ps_ret (pe_and (C8.pe_c care_wholes hr (by decide) (by rfl) (pa_cons (pv 0) (pa_cons pe_int pa_nil))) (pe_and (pe_cmpR op_gt (pe_ix ix_tup (pv 0) pe_int (fun _ _ => rfl)) pe_int (nomark _)) (pe_one (pe_cmpR op_eq (C8.pe_c cdivisor_of hr (by decide) (by rfl) (pa_cons (pv 0) pa_nil)) pe_int (nomark _))))))), fun q hq => ?_⟩
  have hd := q.den_nz
  refine b_ret (ed_andV (b1 := true) (b2 := true) (ed_call (callP q trivial) (ea_cons (ed_var rfl) (ea_cons ed_v ea_nil))) fun _ => ed_andV (b1 := true) (b2 := true) (EvD.to (ed_op op_I0 (ed_den (ed_var rfl)) ed_v) ?_) fun _ => EvD.to (ed_op (op_eqV (by rfl)) (ed_call (callP (q.num, (q.den : Int)) trivial) (ea_cons (ed_var rfl) ea_nil)) ed_v) ?_)
  · rw [decide_eq_true (by omega)]
  · have : (Nat.gcd q.num.natAbs (q.den : Int).natAbs : Nat) = 1 := q.reduced
    show V.bl (decide (V.int ((Nat.gcd q.num.natAbs (q.den : Int).natAbs : Nat) : Int) = V.int 1)) = _
    rw [this]
    rfl
theorem c_is_laid : C8.Cal P w K mg base 4 "is_laid" (spF (fun q : L => W 400 q) (fun q => [dD K (pD q)]) (fun q => dV (.bl true))) [] := by
  have mall := F.m_all
  have misinstance := F.m_isinstance
  have mtuple := F.m_tuple
  have mlen := F.m_len
  have cis_whole := c_is_whole (P := P) (w := w) (base := base) F
  have cis_ratio := c_is_ratio (P := P) (w := w) (base := base) F
  refine fn_ok F.f_is_laid (N := ["value", "each"]) (C8.fnScope_by (by decide +kernel)) (fun _ => rfl) fun sc cdv A outer s H E f hr => ⟨_, (pss_cons (ps_if (PW.pt (pw_or (pt_not (pt_val (pe_callB call_isi (by rfl) misinstance (by decide +kernel) (pa_cons (pv 0) (pa_cons (pe_bltn (v := .ty "tuple") (by rfl) mtuple (by decide +kernel) rfl) pa_nil))))) (pw_or (pt_cmpR op_ne (pe_callB call_len (by rfl) mlen PySem.boot_len (pa_cons (pv 0) pa_nil)) pe_int (nomark _)) (pw_or (pt_not (pt_val (C8.pe_c cis_whole hr (by decide) (by rfl) (pa_cons (pe_ix ix_tup (pv 0) pe_int (fun _ _ => rfl)) pa_nil)))) (pw_or1 (pt_not (pt_val (pe_callB call_isi (by rfl) misinstance (by decide +kernel) (pa_cons (pe_ix ix_tup (pv 0) pe_int (fun _ _ => rfl)) (pa_cons (pe_bltn (v := .ty "tuple") (by rfl) mtuple (by decide +kernel) rfl) pa_nil)))))))))) (pss_one (ps_ret pe_bl)) pss_nil) (pss_cons (ps_if (pt_cmpR (op_eqD hr.units) (pe_ix ix_tup (pv 0) pe_int (fun _ _ => rfl)) (pe_tup pa_nil) (nomark _)) (pss_one (ps_ret (pe_cmpR op_eq (pe_ix ix_tup (pv 0) pe_int (fun _ _ => rfl)) pe_int (nomark _)))) pss_nil) (pss_one (ps_ret (pe_and (pe_callB (cr_all rfl) (by rfl) mall (by decide +kernel) (pa_cons (pe_lc (own := [("each", 1)]) rfl sc.nd (pi_tup (pe_ix ix_tup (pv 0) pe_int (fun _ _ => rfl))) (blkOk_by (by change blkC ["value", "each"] (C8.fnScope (topS 37)) _ _ = true; decide +kernel)) (fun _ _ _ _ _ => (pg_name (i := 1) sc.nd rfl (by first | exact Or.inl rfl | exact Or.inr rfl))) (fun _ _ _ _ _ => pts_nil) (fun _ _ _ _ _ => (C8.pe_c cis_ratio hr (by decide) (by rfl) (pa_cons (pv 1) pa_nil)))) pa_nil)) (pe_and (pe_cmpR op_ne (pe_ix ix_tup (pe_ix ix_tup (pe_ix ix_tup (pv 0) pe_int (fun _ _ => rfl)) pe_int (fun _ _ => rfl)) pe_int (fun _ _ => rfl)) pe_int (nomark _)) (pe_one (pe_cmpR op_ne (pe_ix ix_tup (pe_ix ix_tup (pe_ix ix_tup (pv 0) pe_int (fun _ _ => rfl)) (pe_un un_neg pe_int) (fun _ _ => rfl)) pe_int (fun _ _ => rfl)) pe_int (nomark _))))))))), fun q hq => ?_⟩
  have bw := row_w (by omega) hq
  refine b_if (b1 := false) (eb_or (b1 := false) (b2 := false) (eb_not (b1 := true) (eb_B (ed_isTup (xs := [.int (rowOf q).1, fracsD (rowOf q).2]) (ed_var rfl)))) fun _ => eb_or (b1 := false) (b2 := false) ((eb_test (ed_op (op_neV (by rfl)) (ed_len (xs := [.int (rowOf q).1, fracsD (rowOf q).2]) (ed_var rfl)) ed_v)).to rfl) fun _ => eb_or (b1 := false) (b2 := false) (eb_not (b1 := true) (eb_B (ed_call (callP (rowOf q).1 trivial) (ea_cons (ed_start (r := rowOf q) (ed_var rfl)) ea_nil)))) fun _ => eb_not (b1 := true) (eb_B (ed_isTup (xs := (rowOf q).2.map ratD) (ed_nums (r := rowOf q) (ed_var rfl))))) (fun e => nomatch e) fun _ => ?_
  refine b_if (eb_test (ed_op (op_eqDD (shaped_fracs _) rfl) (ed_nums (r := rowOf q) (ed_var rfl)) (ed_tup (xs := []) ea_nil (by simp)))) (fun e => ?_) (fun e => ?_)
  · have e1 : (rowOf q).2 = [] := by
      have : PyData.eqvAll ((rowOf q).2.map ratD) (([] : List Rat).map ratD) = true := e
      rw [eqv_rats] at this
      exact of_decide_eq_true this
    have e2 : (rowOf q).1 = 0 := by
      rcases (rowOf_is q).1 with h | h
      · exact h.2
      · exact absurd e1 h.1
    exact b_ret (EvD.to (ed_op (op_eqV (by rfl)) (ed_start (r := rowOf q) (ed_var rfl)) ed_v) (by rw [e2]; rfl))
  · have e1 : (rowOf q).2 ≠ [] := fun z => by
      have : PyData.eqvAll ((rowOf q).2.map ratD) (([] : List Rat).map ratD) = false := e
      rw [eqv_rats, z] at this
      simp at this
    have hl : 0 < (rowOf q).2.length := List.length_pos_iff.mpr e1
    obtain ⟨n1, n2, n3⟩ : (rowOf q).2 ≠ [] ∧ nth (rowOf q).2 0 ≠ 0 ∧ nth (rowOf q).2 (((rowOf q).2.length : Int) - 1) ≠ 0 := by
      rcases (rowOf_is q).1 with h | h
      · exact absurd h.1 e1
      · exact h
    have ne : ∀ x : Rat, x ≠ 0 → V.bl (!decide (V.int x.num = V.int 0)) = V.bl true := fun x hx => by
      rw [dec_num, decide_eq_false hx]
      rfl
    refine b_ret (ed_andV (b1 := true) (b2 := true) ?_ fun _ => ed_andV (b1 := true) (b2 := true) (EvD.to (ed_op (op_neV (by rfl)) (ed_num (ed_op (op_ixT (nth_at (i := 0) (by omega) (by omega))) (ed_nums (r := rowOf q) (ed_var rfl)) ed_v)) ed_v) (ne _ n2)) fun _ => EvD.to (ed_op (op_neV (by rfl)) (ed_num (ed_op (op_ixT (nth_last hl)) (ed_nums (r := rowOf q) (ed_var rfl)) (un_neg_d ed_v))) ed_v) (ne _ n3))
    exact ed_allF (ed_nums (r := rowOf q) (ed_var rfl)) (by omega) (by simp) fun x hx => ed_call (callP x trivial) (ea_cons (ed_var rfl) ea_nil)
theorem c_check_row : C8.Cal P w K mg base 5 "check_row" (spF (fun q : L => W 400 q) (fun q => [dD K (pD q)]) (fun q => dV .non)) [] := by
  have cis_laid := c_is_laid (P := P) (w := w) (base := base) F
  refine fn_okN F.f_check_row (N := ["value"]) (C8.fnScope_by (by decide +kernel)) (fun _ => rfl) fun sc cdv A outer s H E f hr => ⟨_, (pss_one (ps_if (pt_not (pt_val (C8.pe_c cis_laid hr (by decide) (by rfl) (pa_cons (pv 0) pa_nil)))) (pss_one ps_never) pss_nil)), fun q hq => ?_⟩
  exact ⟨_, st_ite (b1 := false) (eb_not (b1 := true) (eb_B (ed_call (callP q hq) (ea_cons (ed_var rfl) ea_nil)))) (fun e => nomatch e) fun _ => st_next⟩
theorem c_check_channels : C8.Cal P w K mg base 5 "check_channels" (spF (fun q : L × L => W 400 q.1 ∧ W 400 q.2) (fun q => [dD K (pairD q.1 q.2)]) (fun q => dV .non)) [] := by
  have menumerate := F.m_enumerate
  have misinstance := F.m_isinstance
  have mtuple := F.m_tuple
  have mlen := F.m_len
  have cis_laid := c_is_laid (P := P) (w := w) (base := base) F
  refine fn_okN F.f_check_channels (N := ["value", "index", "each"]) (C8.fnScope_by (by decide +kernel)) (fun _ => rfl) fun sc cdv A outer s H E f hr => ⟨_, (pss_cons (ps_if (PW.pt (pw_or (pt_not (pt_val (pe_callB call_isi (by rfl) misinstance (by decide +kernel) (pa_cons (pv 0) (pa_cons (pe_bltn (v := .ty "tuple") (by rfl) mtuple (by decide +kernel) rfl) pa_nil))))) (pw_or1 (pt_cmpR op_ne (pe_callB call_len (by rfl) mlen PySem.boot_len (pa_cons (pv 0) pa_nil)) pe_int (nomark _))))) (pss_one ps_never) pss_nil) (pss_one (ps_for PassesOwn.never rfl (pi_enumT (by rfl) menumerate (pa_cons (pv 0) pa_nil)) (pg_tup rfl (pgs_cons (pg_name (i := 1) sc.nd rfl (Or.inl rfl)) (pgs_cons (pg_name (i := 2) sc.nd rfl (Or.inl rfl)) pgs_nil))) (pss_one (ps_if (pt_not (pt_val (C8.pe_c cis_laid hr (by decide) (by rfl) (pa_cons (pv 2) pa_nil)))) (pss_one ps_never) pss_nil))))), fun q hq => ?_⟩
  obtain ⟨w1, w2⟩ := hq
  refine ⟨_, st_seq (st_ite (b1 := false) (eb_or (b1 := false) (b2 := false) (eb_not (b1 := true) (eb_B (ed_isTup (xs := [pD q.1, pD q.2]) (ed_var rfl)))) fun _ => (eb_test (ed_op (op_neV (by rfl)) (ed_len (xs := [pD q.1, pD q.2]) (ed_var rfl)) ed_v)).to rfl) (fun e => nomatch e) fun _ => st_next) (st_of_mt (mt_forE (dl := [dD K (pD q.1), dD K (pD q.2)]) (dsj := fun _ => [some (dD K (pairD q.1 q.2)), none, none]) ((ed_var rfl).imp (imp_tup' (xs := [pD q.1, pD q.2]))) (fun d hd => ?_) rfl fun j d hd => ?_))⟩
  · rcases List.mem_cons.mp hd with z | z
    · rw [z]
      exact stiff_p
    · rw [List.mem_singleton.mp z]
      exact stiff_p
  · have : ∃ p : L, W 400 p ∧ d = dD K (pD p) := by
      match j, hd with
      | 0, hd => exact ⟨q.1, w1, (Option.some.inj hd).symm⟩
      | 1, hd => exact ⟨q.2, w2, (Option.some.inj hd).symm⟩
      | j + 2, hd => simp at hd
    obtain ⟨p, wp, rfl⟩ := this
    exact mt_weak (mt_of (st_ite (b1 := false) (eb_not (b1 := true) (eb_B (ed_call (callP p wp) (ea_cons (ed_var rfl) ea_nil)))) (fun e => nomatch e) fun _ => st_next)) (fgt_keep (fgt_drop (fgt_drop fgt_nil)))
/-- what the splitter asks of a pair of rows -/
def SpOk (q : L × L) : Prop := W 90 q.1 ∧ W 90 q.2 ∧ SmL q.1 ∧ SmL q.2
noncomputable def led (q : L × L) : L := weave q.1 (later (-1) q.2)
theorem c_splitter_from : C8.Cal P w K mg base 6 "splitter_from" (spF (fun q : (L × L) × (L × L) => SpOk q.1 ∧ SpOk q.2) (fun q => [dD K (.tuple [pairD q.1.1 q.1.2, pairD q.2.1 q.2.2])]) (fun q => dD K (pairD (led q.1) (led q.2)))) [] := by
  have mtuple := F.m_tuple
  have cweave := c_weave (P := P) (w := w) (base := base) F
  have crow_shift := c_row_shift (P := P) (w := w) (base := base) F
  refine fn_ok F.f_splitter_from (N := ["table", "one", "two"]) (C8.fnScope_by (by decide +kernel)) (fun _ => rfl) fun sc cdv A outer s H E f hr => ⟨_, (pss_one (ps_ret (pe_callTy call_tuple_of (by rfl) mtuple (by decide +kernel) (pa_cons (pe_lc (own := [("one", 1), ("two", 2)]) (g := gTup K 2 (gCons (gName 1) (gCons (gName 2) gNil))) rfl sc.nd (pi_tup (pv 0)) (blkOk_by (by change blkC ["table", "one", "two"] (C8.fnScope (topS 40)) _ _ = true; decide +kernel)) (fun _ _ _ _ _ => (pg_tup rfl (pgs_cons (pg_name (i := 1) sc.nd rfl (by first | exact Or.inl rfl | exact Or.inr rfl)) (pgs_cons (pg_name (i := 2) sc.nd rfl (by first | exact Or.inl rfl | exact Or.inr rfl)) pgs_nil)))) (fun _ _ _ _ _ => pts_nil) (fun _ _ _ _ _ => (C8.pe_c cweave hr (by decide) (by rfl) (pa_cons (pv 1) (pa_cons (C8.pe_c crow_shift hr (by decide) (by rfl) (pa_cons (pv 2) (pa_cons (pe_un un_neg pe_int) pa_nil))) pa_nil))))) pa_nil)))), fun q hq => ?_⟩
  obtain ⟨p1, p2⟩ := q
  obtain ⟨o1, o2⟩ := hq
  have pr : ∀ p : L × L, DP.imp (dD K (pairD p.1 p.2)) (dTup K [dD K (pD p.1), dD K (pD p.2)]) := fun p => imp_tup' (xs := [pD p.1, pD p.2])
  refine b_ret (EvD.imp (ed_cb rc_tuple (ea_cons (ed_lcT2 (K := K) (pl := [(dD K (pD p1.1), dD K (pD p1.2)), (dD K (pD p2.1), dD K (pD p2.2))]) (f := fun j => if j = 0 then dD K (pD (led p1)) else dD K (pD (led p2))) (EvD.imp (ed_var rfl) fun v H h => ?_) (by simp) (by simp) (by simp) (fun j q hd => ?_) (fun j q hd => ?_)) ea_nil)) (imp_tup (xs := [pD (led p1), pD (led p2)])))
  · obtain ⟨a, vs, h1, h2, h3⟩ := imp_tup' (K := K) (xs := [pairD p1.1 p1.2, pairD p2.1 p2.2]) v H h
    refine ⟨a, vs, h1, h2, ?_⟩
    cases h3 with
    | cons a1 r1 => cases r1 with
      | cons a2 r2 =>
        cases r2
        exact .cons (pr p1 _ _ a1) (.cons (pr p2 _ _ a2) .nil)
  · have : ∃ p : L × L, SpOk p ∧ q = (dD K (pD p.1), dD K (pD p.2)) ∧ (if j = 0 then dD K (pD (led p1)) else dD K (pD (led p2))) = dD K (pD (led p)) := by
      match j, hd with
      | 0, hd => exact ⟨p1, o1, (Option.some.inj hd).symm, rfl⟩
      | 1, hd => exact ⟨p2, o2, (Option.some.inj hd).symm, rfl⟩
      | j + 2, hd => simp at hd
    obtain ⟨p, ⟨wa, wb, sa, sb⟩, rfl, e⟩ := this
    show EvD _ _ (if j = 0 then dD K (pD (led p1)) else dD K (pD (led p2)))
    rw [e]
    refine ed_call (callP (p.1, later (-1) p.2) ⟨W.mono wa (by omega), fun k hk => ?_, sa, fun k => ?_⟩) (ea_cons (ed_var rfl) (ea_cons (ed_call (callP (p.2, (-1 : Int)) trivial) (ea_cons (ed_var rfl) (ea_cons (un_neg_d ed_v) ea_nil))) ea_nil))
    · have hk : (later (-1) p.2).co k ≠ 0 := hk
      rw [co_later] at hk
      have := wb _ hk
      omega
    · show Sm ((later (-1) p.2).co k)
      rw [co_later]
      exact sb _
  · split
    · exact stiff_p
    · exact stiff_p
theorem c_splitter_by_rows : C8.Cal P w K mg base 7 "splitter_by_rows" (spF (fun q : Option (L × L) × Option (L × L) => (∀ p, q.1 = some p → SpOk p) ∧ ∀ p, q.2 = some p → SpOk p) (fun q => [dLst K [dD K (optPair q.1), dD K (optPair q.2)]]) (fun q => dD K (match q with | (some a, some b) => pairD (led a) (led b) | _ => .none))) [] := by
  have csplitter_from := c_splitter_from (P := P) (w := w) (base := base) F
  have mtuple := F.m_tuple
  refine fn_ok F.f_splitter_by_rows (N := ["rows"]) (C8.fnScope_by (by decide +kernel)) (fun _ => rfl) fun sc cdv A outer s H E f hr => ⟨_, (pss_one (ps_ret (pe_ifExp (pt_cmpR (op_inD (by have h := hr.un; show (A.deeper _).units + 65 < cLine; omega)) pe_non (pv 0) (by rfl)) pe_non (C8.pe_c csplitter_from hr (by decide) (by rfl) (pa_cons (pe_callTy call_tuple_of (by rfl) mtuple (by decide +kernel) (pa_cons (pv 0) pa_nil)) pa_nil))))), fun q hq => ?_⟩
  obtain ⟨a, b⟩ := q
  obtain ⟨o1, o2⟩ := hq
  have sh : SeqAt.shaped (.list [optPair a, optPair b]) = true := by
    have lay : ∀ o : Option (L × L), PyData.canLay0 (optPair o) = true ∧ PyData.depth (optPair o) ≤ 4 := fun o => by
      cases o with
      | none => exact ⟨rfl, Nat.zero_le _⟩
      | some q =>
        refine ⟨?_, ?_⟩
        · show (PyData.canLay0 (pD q.1) && (PyData.canLay0 (pD q.2) && true)) = true
          rw [show PyData.canLay0 (pD q.1) = true from lay_row _, show PyData.canLay0 (pD q.2) = true from lay_row _]
          rfl
        · show max (PyData.depth (pD q.1)) (max (PyData.depth (pD q.2)) 0) + 1 ≤ 4
          have := depth_row (rowOf q.1)
          have := depth_row (rowOf q.2)
          unfold pD
          omega
    refine shaped_of ?_ ?_
    · show (PyData.canLay0 (optPair a) && (PyData.canLay0 (optPair b) && true)) = true
      rw [(lay a).1, (lay b).1]
      rfl
    · show max (PyData.depth (optPair a)) (max (PyData.depth (optPair b)) 0) + 1 ≤ 64
      have := (lay a).2
      have := (lay b).2
      omega
  have isn : ∀ o : Option (L × L), PyData.eqv (optPair o) .none = o.isNone := fun o => by
    cases o with
    | none => rfl
    | some q => rfl
  refine b_ret (ed_if (eb_test (ed_op (op_inN (xs := [optPair a, optPair b]) sh) (ed_c fun H => rfl) ((ed_var rfl).imp (imp_lst (xs := [optPair a, optPair b]))))) (fun e => ?_) (fun e => ?_))
  · have : (match (a, b) with | (some a, some b) => pairD (led a) (led b) | _ => PyData.none) = .none := by
      have e : (PyData.eqv (optPair a) .none || (PyData.eqv (optPair b) .none || false)) = true := e
      rw [isn, isn] at e
      cases a with
      | none => rfl
      | some a => cases b with
        | none => rfl
        | some b => cases e
    show EvD _ _ (dD K (match (a, b) with | (some a, some b) => pairD (led a) (led b) | _ => PyData.none))
    rw [this]
    exact ed_c fun H => .non
  · have e : (PyData.eqv (optPair a) .none || (PyData.eqv (optPair b) .none || false)) = false := e
    rw [isn, isn] at e
    cases a with
    | none => cases e
    | some a => cases b with
      | none => cases e
      | some b => exact ed_call (callP (a, b) ⟨o1 a rfl, o2 b rfl⟩) (ea_cons (EvD.imp (ed_cb rc_tuple (ea_cons (ed_var rfl) ea_nil)) (imp_tup (xs := [pairD a.1 a.2, pairD b.1 b.2]))) ea_nil)
end
end K65

/-! K65Y: readings -/
namespace K65
open PySem PySem.Spec PyProof.Rows L2
noncomputable def eqL (p q : L) : Bool := PyData.eqv (pD p) (pD q)
open Classical in
theorem eqL_iff {p q : L} : eqL p q = true ↔ p = q := by
  unfold eqL
  rw [eqv_p]
  exact ⟨of_decide_eq_true, fun h => decide_eq_true h⟩
noncomputable def isNo (q : L × L) : Bool := PyData.eqv (pairD q.1 q.2) (pairD 0 0)
open Classical in
theorem isNo_iff {q : L × L} : isNo q = true ↔ q.1 = 0 ∧ q.2 = 0 := by
  unfold isNo
  rw [eqv_pair]
  exact ⟨of_decide_eq_true, fun h => decide_eq_true h⟩
structure BothOk (c o a b a' b' : L) (res : Option (L × L)) : Prop where
  p1 : PrOk a b'
  p2 : PrOk b a'
  s1 : SbOk (a * b') (b * a')
  p3 : PrOk c b'
  p4 : PrOk o b
  s2 : SbOk (c * b') (o * b)
  p5 : PrOk a o
  p6 : PrOk a' c
  s3 : SbOk (a * o) (a' * c)
  d1 : DqOk (c * b' - o * b) (a * b' - b * a')
  d2 : DqOk (a * o - a' * c) (a * b' - b * a')
  eq : res = (match quo (c * b' - o * b) (a * b' - b * a'), quo (a * o - a' * c) (a * b' - b * a') with | some x, some y => some (x, y) | _, _ => none)
/-- the pair that lone_direction takes -/
noncomputable def pick (m t : L × L) : L × L := if isNo m then t else m
noncomputable def sel (l m : L × L) : L := if isZ l.1 then m.2 else m.1
structure LoneOk (m t : L × L) (A B g u v : L) : Prop where
  run : Eu (pick m t).1 1 0 (pick m t).2 0 1 A B g
  d1 : DqOk (pick m t).1 g
  d2 : DqOk (pick m t).2 g
  q1 : quo (pick m t).1 g = some u
  q2 : quo (pick m t).2 g = some v
structure TimesOk (m l : L × L) (x : L) : Prop where
  d : DqOk (sel l m) (sel l l)
  q : quo (sel l m) (sel l l) = some x
structure TableOk (c u v A B : L) : Prop where
  run : Eu u 1 0 v 0 1 A B 1
  d : DqOk c 1
  q : quo c 1 = some c
  p1 : PrOk A c
  p2 : PrOk B c
noncomputable def wantOf (c o x y : L) : Option L := if isZ x then quo o y else quo c x
noncomputable def alongRes (c o x y A B : L) : Option (L × L) := (wantOf c o x y).bind fun w => if eqL (x * w) c && eqL (y * w) o then some (A * w, B * w) else none
structure AlongOk (c o : L) (m t : L × L) (res : Option (L × L)) : Prop where
  no : m = (0, 0) → t = (0, 0) → res = (if isZ c && isZ o then some (0, 0) else none)
  ex : ¬ (m = (0, 0) ∧ t = (0, 0)) → ∃ A B g u v x y, LoneOk m t A B g u v ∧ TimesOk m (u, v) x ∧ TimesOk t (u, v) y ∧ (isZ x = false → DqOk c x) ∧ (isZ x = true → DqOk o y) ∧
    (∀ w, wantOf c o x y = some w → PrOk x w ∧ PrOk y w ∧ (x * w = c → y * w = o → TableOk w u v A B)) ∧ res = alongRes c o x y A B
structure LeadOk (r r' c o : L) (res : Option (L × L)) : Prop where
  along : even r * odd r' - odd r * even r' = 0 → AlongOk c o (even r, odd r) (even r', odd r') res
  both : even r * odd r' - odd r * even r' ≠ 0 → BothOk c o (even r) (odd r) (even r') (odd r') res
  sp : ∀ p, res = some p → SpOk p
structure ReadOk (r r' : L) (ch ch' : L × L) (res res' : Option (L × L)) : Prop where
  wr : W 400 r
  wr' : W 400 r'
  p1 : PrOk (even r) (odd r')
  p2 : PrOk (odd r) (even r')
  s : SbOk (even r * odd r') (odd r * even r')
  l1 : LeadOk r r' ch.1 ch'.1 res
  l2 : LeadOk r r' ch.2 ch'.2 res'
section
variable {P : Program} {w : World} {mg : Str → Option Value} {base : Heap} {K : PySem.W.Frag} {ds ds' ds1 : List (Option DP)} {te tl th : TE} {ta : TA} {tt : TT} {t u : TS} {d d1 d2 : DP} {dl : List DP}
theorem eb_isNo {q : L × L} {a : Addr} (h : EvD te ds (dD K (pairD q.1 q.2))) (hN : ∀ H, Dp K H (.ref a) nothingD) : EvB (tTest (tOp (rEqD K) te (tC (.ref a)))) ds (isNo q) := by
  rw [nothingD_eq] at hN
  exact eb_test (ed_op (op_eqDD (shaped_pair _ _) (shaped_pair 0 0)) h (ed_c hN))
theorem eb_neNo {q : L × L} {a : Addr} (h : EvD te ds (dD K (pairD q.1 q.2))) (hN : ∀ H, Dp K H (.ref a) nothingD) : EvB (tTest (tOp (rNeD K) te (tC (.ref a)))) ds (!isNo q) := by
  rw [nothingD_eq] at hN
  exact eb_test (ed_op (op_neDD (shaped_pair _ _) (shaped_pair 0 0)) h (ed_c hN))
theorem ed_No {a : Addr} (hN : ∀ H, Dp K H (.ref a) nothingD) : EvD (tC (.ref a)) ds (dD K (pairD 0 0)) := by
  rw [nothingD_eq] at hN
  exact ed_c hN
theorem ed_U {a : Addr} (hN : ∀ H, Dp K H (.ref a) unitD) : EvD (tC (.ref a)) ds (dD K (pD 1)) := by
  rw [unitD_eq] at hN
  exact ed_c hN
theorem ed_fst {p q : L} (h : EvD te ds (dD K (pairD p q))) : EvD (tOp (rIxT K) te (tC (.int 0))) ds (dD K (pD p)) := ed_op (op_ixT (xs := [pD p, pD q]) (by rfl)) h ed_v
theorem ed_snd {p q : L} (h : EvD te ds (dD K (pairD p q))) : EvD (tOp (rIxT K) te (tC (.int 1))) ds (dD K (pD q)) := ed_op (op_ixT (xs := [pD p, pD q]) (by rfl)) h ed_v
theorem eb_neL {tb : TE} {p q : L} (h : EvD te ds (dD K (pD p))) (h2 : EvD tb ds (dD K (pD q))) : EvB (tTest (tOp (rNeD K) te tb)) ds (!eqL p q) := eb_test (ed_op (op_neDD (shaped_p _) (shaped_p _)) h h2)
theorem st_tup3 {d3 : DP} {i j l : Nat} (h : EvD te ds (dTup K [d1, d2, d3])) : StD (tAsg te (gTup K 3 (gCons (gName i) (gCons (gName j) (gCons (gName l) gNil))))) ds (((ds.set i (some d1)).set j (some d2)).set l (some d3)) := fun D σ H s q =>
  h σ H s _ fun v H1 e1 hv => by
    obtain ⟨a, vs, rfl, hs, ha⟩ := hv
    cases ha with
    | @cons _ _ v _ _ h1 hr => cases hr with
      | @cons _ _ w _ _ h2 hr2 => cases hr2 with
        | @cons _ _ x _ _ h3 hr3 =>
          cases hr3
          exact ⟨a, [v, w, x], rfl, hs, rfl, v, [w, x], rfl, w, [x], rfl, x, [], rfl, rfl, q _ H1 e1 ((((s.mono e1).set i h1).set j h2).set l h3)⟩
theorem walk_zipT {a b : Addr} {xs ys : List V} {n : Nat} (h1 : xs.length = n) (h2 : ys.length = n) : Walk (RZ.ItzT K a b) n (fun H => SqT K H a xs ∧ SqT K H b ys) (YPair (fun i => xs[i]?) (fun i => ys[i]?)) := by
  refine ⟨fun i _ hi q => ?_, fun _ q => ⟨xs, ys, q.1, q.2, by omega⟩, fun i H v H' _ q y => ?_⟩
  · have h1 : i < xs.length := by omega
    have h2 : i < ys.length := by omega
    exact ⟨xs, ys, xs[i], ys[i], q.1, q.2, by simp [h1], by simp [h2]⟩
  · obtain ⟨T, x, z, h1, h2, h3, h4, h5⟩ := y
    exact ⟨T, x, z, h1, h2, h3, h4 xs q.1, h5 ys q.2⟩
/-- for a, b in zip(two tuples) -/
theorem ed_lcZ {pl : List (DP × DP)} {i i2 : Nat} {vs : List Nat} {f : Nat → DP} (h : EvA ta ds [dTup K (pl.map (·.1)), dTup K (pl.map (·.2))]) {te' : TE} (hn : pl.length ≤ 1000) (hi' : i ∈ vs) (hi2 : i2 ∈ vs)
    (he : ∀ j q, pl[j]? = some q → EvD te' (((wipeD ds vs).set i (some q.1)).set i2 (some q.2)) (f j))
    (hs : ∀ j q, pl[j]? = some q → (f j).Stiff) : EvD (tLc (RZ.iZipA K ta) (gTup K 2 (gCons (gName i) (gCons (gName i2) gNil))) tYes te' vs) ds (dLst K ((List.range pl.length).map f)) := fun σ H s Q q =>
  h σ H s _ fun v H1 e1 hv => by
    cases hv with
    | cons a1 r1 => cases r1 with
      | cons a2 r2 =>
        cases r2
        obtain ⟨a, us, rfl, hS, ha⟩ := a1
        obtain ⟨b, ws, rfl, hS2, hb⟩ := a2
        have hl : us.length = pl.length := by rw [ha.length, List.length_map]
        have hl2 : ws.length = pl.length := by rw [hb.length, List.length_map]
        refine ⟨a, b, us, ws, rfl, .inr ⟨hS, hS2, fun D hD => ?_⟩⟩
        refine lc_gen (walk_zipT (K := K) (a := a) (b := b) hl hl2) (dsj := fun j => ((wipeD ds vs).set i ((pl[j]?).map (·.1))).set i2 ((pl[j]?).map (·.2))) (f := f) (p := fun _ => true) hD hn (fun H2 s2 => ⟨same_t s2 hS, same_t s2 hS2⟩) (fun j x H2 H3 hj s2 y => ?_) (fun j hj => eb_yes) (fun j hj hp => ?_) (fun j hj hp => ?_) (fun H2 acc s2 hDa hA => ?_)
        · obtain ⟨T, x1, x2, rfl, hT, rfl, g1, g2⟩ := y
          have ej : pl[j]? = some pl[j] := List.getElem?_eq_getElem hj
          have e3 : Same H2 (upd H2 T (.tup [x1, x2])) := same_new hT
          refine ⟨e3, fun Kk hk => ?_⟩
          obtain ⟨y1, k1, k2⟩ := (ha.mono (s2.trans e3)).get (i := j) (d := pl[j].1) (by rw [List.getElem?_map, ej]; rfl)
          obtain ⟨y2, k3, k4⟩ := (hb.mono (s2.trans e3)).get (i := j) (d := pl[j].2) (by rw [List.getElem?_map, ej]; rfl)
          replace g1 : us[j]? = some x1 := g1
          replace g2 : ws[j]? = some x2 := g2
          rw [g1] at k1
          rw [g2] at k3
          have k1 := Option.some.inj k1
          have k3 := Option.some.inj k3
          subst k1
          subst k3
          refine ⟨T, [x1, x2], rfl, SqT.of upd_same, rfl, x1, [x2], rfl, x2, [], rfl, rfl, hk _ ?_ ?_⟩
          · apply List.ext_getElem?
            intro k
            have key : ∀ (τ : L2.St) (us : List Nat) (k : Nat), (wipe τ us)[k]? = if k ∈ us then (if k < τ.length then some none else none) else τ[k]? := by
              intro τ us
              induction us with
              | nil => intro k; simp [L2.wipe]
              | cons u us ih =>
                intro k
                show ((L2.wipe τ us).set u none)[k]? = _
                rw [List.getElem?_set]
                by_cases e : u = k
                · subst e
                  rw [if_pos rfl, L2.wipe_length, if_pos (List.mem_cons_self)]
                · rw [if_neg e, ih]
                  by_cases m : k ∈ us
                  · rw [if_pos m, if_pos (List.mem_cons_of_mem _ m)]
                  · rw [if_neg m, if_neg (by simp [m]; exact fun z => e z.symm)]
            rw [key, key]
            by_cases m : k ∈ vs
            · rw [if_pos m, if_pos m, List.length_set, List.length_set, L2.wipe_length]
            · rw [if_neg m, if_neg m, List.getElem?_set, if_neg (fun (z : i2 = k) => m (by rw [← z]; exact hi2)), List.getElem?_set, if_neg (fun (z : i = k) => m (by rw [← z]; exact hi')), key, if_neg m]
          · rw [ej]
            exact ((((s.mono e1).mono (s2.trans e3)).wipe vs).set i k2).set i2 k4
        · have ej : pl[j]? = some pl[j] := List.getElem?_eq_getElem hj
          rw [ej]
          exact he j _ ej
        · have ej : pl[j]? = some pl[j] := List.getElem?_eq_getElem hj
          exact hs j _ ej
        · rw [all_true] at hA
          exact q (.ref D) H2 (e1.trans s2) ⟨D, acc, rfl, SqL.of hDa, hA⟩
variable (F : Facts K mg)
include F
theorem c_factors_for : C8.Cal P w K mg base 6 "factors_for" (spF (fun q : L × L × L × L × L => Eu q.1 1 0 q.2.1 0 1 q.2.2.1 q.2.2.2.1 q.2.2.2.2) (fun q => [dD K (pD q.1), dD K (pD q.2.1)]) (fun q => dTup K [dD K (pD q.2.2.1), dD K (pD q.2.2.2.1), dD K (pD q.2.2.2.2)])) [] := by
  obtain ⟨aNOUGHT, gNOUGHT0, hNOUGHT⟩ := F.g_NOUGHT
  have gNOUGHT : ∃ u, mg "NOUGHT" = some u ∧ RelV (V.ref aNOUGHT) u := ⟨_, gNOUGHT0, rfl⟩
  obtain ⟨aUNIT, gUNIT0, hUNIT⟩ := F.g_UNIT
  have gUNIT : ∃ u, mg "UNIT" = some u ∧ RelV (V.ref aUNIT) u := ⟨_, gUNIT0, rfl⟩
  have mtuple := F.m_tuple
  have crow_divided := c_row_divided (P := P) (w := w) (base := base) F
  have crow_less := c_row_less (P := P) (w := w) (base := base) F
  have crow_product := c_row_product (P := P) (w := w) (base := base) F
  have mzip := F.m_zip
  refine fn_ok F.f_factors_for (N := ["one", "two", "first", "second", "factor", "third", "mine", "its"]) (C8.fnScope_by (by decide +kernel)) (fun _ => rfl) fun sc cdv A outer s H E f hr => ⟨_, (pss_cons (ps_par (i := 2) (j := 3) rfl sc.nd rfl rfl (by decide) rfl rfl (pa_cons (pe_tup (pa_cons (pv 0) (pa_cons (C8.pe_gc rfl gUNIT) (pa_cons (C8.pe_gc rfl gNOUGHT) pa_nil)))) (pa_cons (pe_tup (pa_cons (pv 1) (pa_cons (C8.pe_gc rfl gNOUGHT) (pa_cons (C8.pe_gc rfl gUNIT) pa_nil)))) pa_nil)) (by rfl)) (pss_cons (ps_while PassesOwn.never (pt_cmpR (op_neD hr.units) (pe_ix ix_tup (pv 3) pe_int (fun _ _ => rfl)) (C8.pe_gc rfl gNOUGHT) (nomark _)) (pss_cons (ps_set (i := 4) sc.nd rfl (Or.inr rfl) (pe_ix ix_tup (C8.pe_c crow_divided hr (by decide) (by rfl) (pa_cons (pe_ix ix_tup (pv 2) pe_int (fun _ _ => rfl)) (pa_cons (pe_ix ix_tup (pv 3) pe_int (fun _ _ => rfl)) pa_nil))) pe_int (fun _ _ => rfl))) (pss_cons (ps_set (i := 5) sc.nd rfl (Or.inl rfl) (pe_callTy call_tuple_of (by rfl) mtuple (by decide +kernel) (pa_cons (pe_lc (own := [("mine", 6), ("its", 7)]) (g := gTup K 2 (gCons (gName 6) (gCons (gName 7) gNil))) rfl sc.nd (RZ.pi_zipA (by rfl) mzip (pa_cons (pv 2) (pa_cons (pv 3) pa_nil))) (blkOk_by (by change blkC ["one", "two", "first", "second", "factor", "third", "mine", "its"] (C8.fnScope (topS 44)) _ _ = true; decide +kernel)) (fun _ _ _ _ _ => (pg_tup rfl (pgs_cons (pg_name (i := 6) sc.nd rfl (by first | exact Or.inl rfl | exact Or.inr rfl)) (pgs_cons (pg_name (i := 7) sc.nd rfl (by first | exact Or.inl rfl | exact Or.inr rfl)) pgs_nil)))) (fun _ _ _ _ _ => pts_nil) (fun _ _ _ _ _ => (C8.pe_c crow_less hr (by decide) (by rfl) (pa_cons (pv 6) (pa_cons (C8.pe_c crow_product hr (by decide) (by rfl) (pa_cons (pv 4) (pa_cons (pv 7) pa_nil))) pa_nil))))) pa_nil))) (pss_one (ps_par (i := 2) (j := 3) rfl sc.nd rfl rfl (by decide) rfl rfl (pa_cons (pv 3) (pa_cons (pv 5) pa_nil)) (by rfl)))))) (pss_one (ps_ret (pe_tup (pa_cons (pe_ix ix_tup (pv 2) pe_int (fun _ _ => rfl)) (pa_cons (pe_ix ix_tup (pv 2) pe_int (fun _ _ => rfl)) (pa_cons (pe_ix ix_tup (pv 2) pe_int (fun _ _ => rfl)) pa_nil)))))))), fun q hq => ?_⟩
  obtain ⟨one, two, A, B, g⟩ := q
  replace hq : Eu one 1 0 two 0 1 A B g := hq
  refine b_st (st_par (ea_cons (ed_tupP (K := K) (ea_cons (ed_var rfl) (ea_cons (ed_U hUNIT) (ea_cons (ed_N hNOUGHT) ea_nil))) (by simp)) (ea_cons (ed_tupP (K := K) (ea_cons (ed_var rfl) (ea_cons (ed_N hNOUGHT) (ea_cons (ed_U hUNIT) ea_nil))) (by simp)) ea_nil))) ?_
  refine b_while (α := (L × L × L) × (L × L × L)) (I := fun a => [some (dD K (pD one)), some (dD K (pD two)), some (dTup K [dD K (pD a.1.1), dD K (pD a.1.2.1), dD K (pD a.1.2.2)]), some (dTup K [dD K (pD a.2.1), dD K (pD a.2.2.1), dD K (pD a.2.2.2)]), none, none, none, none])
    (ok := fun a => Eu a.1.1 a.1.2.1 a.1.2.2 a.2.1 a.2.2.1 a.2.2.2 A B g) (fun a => width a.2.1) (fun a => !isZ a.2.1) ((one, 1, 0), (two, 0, 1)) hq rfl (fun a ha => eb_neN (ed_op (op_ixTP (by rfl)) (ed_var rfl) ed_v) hNOUGHT) (fun a ha hc => ?_) (fun a ha hc => ?_)
  · obtain ⟨⟨f1, fA, fB⟩, s1, sA, sB⟩ := a
    replace ha : Eu f1 fA fB s1 sA sB A B g := ha
    have ne : s1 ≠ 0 := isZ_not.mp (by simpa using hc)
    cases ha with
    | stop => exact absurd rfl ne
    | step _ st nx =>
      refine ⟨((s1, sA, sB), (f1 - (dv f1 s1).1 * s1, fA - (dv f1 s1).1 * sA, fB - (dv f1 s1).1 * sB)), nx, ?_, ?_⟩
      · show width (f1 - (dv f1 s1).1 * s1) < width s1
        rw [dv_sub]
        exact width_lt_rest ne
      · refine st_weak (st_seq (st_asg (d1 := dD K (pD (dv f1 s1).1)) (ed_op (op_ixTP (by rfl)) (ed_call (callP (f1, s1) st.div) (ea_cons (ed_op (op_ixTP (by rfl)) (ed_var rfl) ed_v) (ea_cons (ed_op (op_ixTP (by rfl)) (ed_var rfl) ed_v) ea_nil))) ed_v))
          (st_seq (st_asg (d1 := dTup K [dD K (pD (f1 - (dv f1 s1).1 * s1)), dD K (pD (fA - (dv f1 s1).1 * sA)), dD K (pD (fB - (dv f1 s1).1 * sB))]) (ed_cb rc_tuple (ea_cons (ed_lcZ (K := K) (pl := [(dD K (pD f1), dD K (pD s1)), (dD K (pD fA), dD K (pD sA)), (dD K (pD fB), dD K (pD sB))]) (f := fun j => if j = 0 then dD K (pD (f1 - (dv f1 s1).1 * s1)) else if j = 1 then dD K (pD (fA - (dv f1 s1).1 * sA)) else dD K (pD (fB - (dv f1 s1).1 * sB))) (ea_cons (ed_var rfl) (ea_cons (ed_var rfl) ea_nil)) (by simp) (by simp) (by simp) (fun j q hd => ?_) (fun j q hd => ?_)) ea_nil)))
            (st_par (ea_cons (ed_var rfl) (ea_cons (ed_var rfl) ea_nil))))) ?_
        · have : ∃ a b : L, PrOk (dv f1 s1).1 b ∧ SbOk a ((dv f1 s1).1 * b) ∧ q = (dD K (pD a), dD K (pD b)) ∧ (if j = 0 then dD K (pD (f1 - (dv f1 s1).1 * s1)) else if j = 1 then dD K (pD (fA - (dv f1 s1).1 * sA)) else dD K (pD (fB - (dv f1 s1).1 * sB))) = dD K (pD (a - (dv f1 s1).1 * b)) := by
            match j, hd with
            | 0, hd => exact ⟨_, _, st.p0, st.l0, (Option.some.inj hd).symm, rfl⟩
            | 1, hd => exact ⟨_, _, st.p1, st.l1, (Option.some.inj hd).symm, rfl⟩
            | 2, hd => exact ⟨_, _, st.p2, st.l2, (Option.some.inj hd).symm, rfl⟩
            | j + 3, hd => simp at hd
          obtain ⟨a, b, h1, h2, rfl, e⟩ := this
          show EvD _ _ (if j = 0 then _ else _)
          rw [e]
          exact ed_call (callP (a, (dv f1 s1).1 * b) h2) (ea_cons (ed_var rfl) (ea_cons (ed_call (callP ((dv f1 s1).1, b) h1) (ea_cons (ed_var rfl) (ea_cons (ed_var rfl) ea_nil))) ea_nil))
        · split
          · exact stiff_p
          · split
            · exact stiff_p
            · exact stiff_p
        · exact fgt_keep (fgt_keep (fgt_keep (fgt_keep (fgt_drop (fgt_drop (fgt_keep (fgt_keep fgt_nil)))))))
  · obtain ⟨⟨f1, fA, fB⟩, s1, sA, sB⟩ := a
    replace ha : Eu f1 fA fB s1 sA sB A B g := ha
    have e : s1 = 0 := isZ_iff.mp (by simpa using hc)
    subst e
    cases ha with
    | stop => exact b_ret (ed_tupP (K := K) (ea_cons (ed_op (op_ixTP (by rfl)) (ed_var rfl) ed_v) (ea_cons (ed_op (op_ixTP (by rfl)) (ed_var rfl) ed_v) (ea_cons (ed_op (op_ixTP (by rfl)) (ed_var rfl) ed_v) ea_nil))) (by simp))
    | step h _ _ => exact absurd rfl h
theorem c_pair_determinant : C8.Cal P w K mg base 6 "pair_determinant" (spF (fun q : L × L => W 400 q.1 ∧ W 400 q.2 ∧ PrOk (even q.1) (odd q.2) ∧ PrOk (odd q.1) (even q.2) ∧ SbOk (even q.1 * odd q.2) (odd q.1 * even q.2)) (fun q => [dD K (pD q.1), dD K (pD q.2)]) (fun q => dD K (pD (even q.1 * odd q.2 - odd q.1 * even q.2)))) [] := by
  have crow_less := c_row_less (P := P) (w := w) (base := base) F
  have crow_product := c_row_product (P := P) (w := w) (base := base) F
  have ceven_of := c_even_of (P := P) (w := w) (base := base) F
  have codd_of := c_odd_of (P := P) (w := w) (base := base) F
  refine fn_ok F.f_pair_determinant (N := ["row", "other"]) (C8.fnScope_by (by decide +kernel)) (fun _ => rfl) fun sc cdv A outer s H E f hr => ⟨_, (pss_one (ps_ret (C8.pe_c crow_less hr (by decide) (by rfl) (pa_cons (C8.pe_c crow_product hr (by decide) (by rfl) (pa_cons (C8.pe_c ceven_of hr (by decide) (by rfl) (pa_cons (pv 0) pa_nil)) (pa_cons (C8.pe_c codd_of hr (by decide) (by rfl) (pa_cons (pv 1) pa_nil)) pa_nil))) (pa_cons (C8.pe_c crow_product hr (by decide) (by rfl) (pa_cons (C8.pe_c codd_of hr (by decide) (by rfl) (pa_cons (pv 0) pa_nil)) (pa_cons (C8.pe_c ceven_of hr (by decide) (by rfl) (pa_cons (pv 1) pa_nil)) pa_nil))) pa_nil))))), fun q hq => ?_⟩
  obtain ⟨r, r'⟩ := q
  obtain ⟨w1, w2, p1, p2, s1⟩ := hq
  exact b_ret (ed_call (callP (even r * odd r', odd r * even r') s1) (ea_cons (ed_call (callP (even r, odd r') p1) (ea_cons (ed_call (callP r w1) (ea_cons (ed_var rfl) ea_nil)) (ea_cons (ed_call (callP r' w2) (ea_cons (ed_var rfl) ea_nil)) ea_nil))) (ea_cons (ed_call (callP (odd r, even r') p2) (ea_cons (ed_call (callP r w1) (ea_cons (ed_var rfl) ea_nil)) (ea_cons (ed_call (callP r' w2) (ea_cons (ed_var rfl) ea_nil)) ea_nil))) ea_nil)))
theorem c_parts_of : C8.Cal P w K mg base 5 "parts_of" (spF (fun q : L => W 400 q) (fun q => [dD K (pD q)]) (fun q => dD K (pairD (even q) (odd q)))) [] := by
  have ceven_of := c_even_of (P := P) (w := w) (base := base) F
  have codd_of := c_odd_of (P := P) (w := w) (base := base) F
  refine fn_ok F.f_parts_of (N := ["row"]) (C8.fnScope_by (by decide +kernel)) (fun _ => rfl) fun sc cdv A outer s H E f hr => ⟨_, (pss_one (ps_ret (pe_tup (pa_cons (C8.pe_c ceven_of hr (by decide) (by rfl) (pa_cons (pv 0) pa_nil)) (pa_cons (C8.pe_c codd_of hr (by decide) (by rfl) (pa_cons (pv 0) pa_nil)) pa_nil))))), fun q hq => ?_⟩
  exact b_ret (ed_tup (xs := [pD (even q), pD (odd q)]) (ea_cons (ed_call (callP q hq) (ea_cons (ed_var rfl) ea_nil)) (ea_cons (ed_call (callP q hq) (ea_cons (ed_var rfl) ea_nil)) ea_nil)) (by simp))
theorem c_table_row : C8.Cal P w K mg base 7 "table_row" (spF (fun q : L × L × L × L × L => TableOk q.1 q.2.1 q.2.2.1 q.2.2.2.1 q.2.2.2.2) (fun q => [dD K (pD q.1), dD K (pairD q.2.1 q.2.2.1)]) (fun q => dD K (pairD (q.2.2.2.1 * q.1) (q.2.2.2.2 * q.1)))) [] := by
  have cfactors_for := c_factors_for (P := P) (w := w) (base := base) F
  obtain ⟨aNOUGHT, gNOUGHT0, hNOUGHT⟩ := F.g_NOUGHT
  have gNOUGHT : ∃ u, mg "NOUGHT" = some u ∧ RelV (V.ref aNOUGHT) u := ⟨_, gNOUGHT0, rfl⟩
  have crow_quotient := c_row_quotient (P := P) (w := w) (base := base) F
  obtain ⟨aNOTHING, gNOTHING0, hNOTHING⟩ := F.g_NOTHING
  have gNOTHING : ∃ u, mg "NOTHING" = some u ∧ RelV (V.ref aNOTHING) u := ⟨_, gNOTHING0, rfl⟩
  have crow_product := c_row_product (P := P) (w := w) (base := base) F
  refine fn_ok F.f_table_row (N := ["channel", "parts", "one", "two", "common", "factor"]) (C8.fnScope_by (by decide +kernel)) (fun _ => rfl) fun sc cdv A outer s H E f hr => ⟨_, (pss_cons (ps_asg (C8.pe_c cfactors_for hr (by decide) (by rfl) (pa_cons (pe_ix ix_tup (pv 1) pe_int (fun _ _ => rfl)) (pa_cons (pe_ix ix_tup (pv 1) pe_int (fun _ _ => rfl)) pa_nil))) (pg_tup rfl (pgs_cons (pg_name (i := 2) sc.nd rfl (Or.inl rfl)) (pgs_cons (pg_name (i := 3) sc.nd rfl (Or.inl rfl)) (pgs_cons (pg_name (i := 4) sc.nd rfl (Or.inl rfl)) pgs_nil))))) (pss_cons (ps_if (pt_cmpR (op_eqD hr.units) (pv 4) (C8.pe_gc rfl gNOUGHT) (nomark _)) (pss_one (ps_ret (pe_ifExp (pt_cmpR (op_eqD hr.units) (pv 0) (C8.pe_gc rfl gNOUGHT) (nomark _)) (C8.pe_gc rfl gNOTHING) pe_non))) pss_nil) (pss_cons (ps_set (i := 5) sc.nd rfl (Or.inl rfl) (C8.pe_c crow_quotient hr (by decide) (by rfl) (pa_cons (pv 0) (pa_cons (pv 4) pa_nil)))) (pss_one (ps_ret (pe_ifExp (pt_cmpR op_isN (pv 5) pe_non (nomark _)) pe_non (pe_tup (pa_cons (C8.pe_c crow_product hr (by decide) (by rfl) (pa_cons (pv 2) (pa_cons (pv 5) pa_nil))) (pa_cons (C8.pe_c crow_product hr (by decide) (by rfl) (pa_cons (pv 3) (pa_cons (pv 5) pa_nil))) pa_nil))))))))), fun q hq => ?_⟩
  obtain ⟨c, u, v, A1, B1⟩ := q
  replace hq : TableOk c u v A1 B1 := hq
  refine b_st (st_tup3 (ed_call (callP (u, v, A1, B1, 1) hq.run) (ea_cons (ed_fst (ed_var rfl)) (ea_cons (ed_snd (ed_var rfl)) ea_nil)))) ?_
  refine b_if (b1 := false) ((eb_isN (ed_var rfl) hNOUGHT).to (isZ_not.mpr one_ne)) (fun e => nomatch e) fun _ => ?_
  refine b_asg (d1 := dD K (optP (some c))) (EvD.imp (ed_call (callP (c, 1) hq.d) (ea_cons (ed_var rfl) (ea_cons (ed_var rfl) ea_nil))) (imp_eq (by rw [hq.q]))) ?_
  refine b_ret (ed_if (eb_isNone (ed_var rfl)) (fun e => nomatch e) fun _ => ed_tup (xs := [pD (A1 * c), pD (B1 * c)]) (ea_cons (ed_call (callP (A1, c) hq.p1) (ea_cons (ed_var rfl) (ea_cons (ed_var rfl) ea_nil))) (ea_cons (ed_call (callP (B1, c) hq.p2) (ea_cons (ed_var rfl) (ea_cons (ed_var rfl) ea_nil))) ea_nil)) (by simp))
theorem c_row_by_both : C8.Cal P w K mg base 6 "row_by_both" (spF (fun q : L × L × L × L × L × L × Option (L × L) => BothOk q.1 q.2.1 q.2.2.1 q.2.2.2.1 q.2.2.2.2.1 q.2.2.2.2.2.1 q.2.2.2.2.2.2) (fun q => [dD K (pD q.1), dD K (pD q.2.1), dD K (pairD q.2.2.1 q.2.2.2.1), dD K (pairD q.2.2.2.2.1 q.2.2.2.2.2.1)]) (fun q => dD K (optPair q.2.2.2.2.2.2))) [] := by
  have crow_less := c_row_less (P := P) (w := w) (base := base) F
  have crow_quotient := c_row_quotient (P := P) (w := w) (base := base) F
  have crow_product := c_row_product (P := P) (w := w) (base := base) F
  refine fn_ok F.f_row_by_both (N := ["channel", "other", "mine", "its", "whole", "first", "second"]) (C8.fnScope_by (by decide +kernel)) (fun _ => rfl) fun sc cdv A outer s H E f hr => ⟨_, (pss_cons (ps_set (i := 4) sc.nd rfl (Or.inl rfl) (C8.pe_c crow_less hr (by decide) (by rfl) (pa_cons (C8.pe_c crow_product hr (by decide) (by rfl) (pa_cons (pe_ix ix_tup (pv 2) pe_int (fun _ _ => rfl)) (pa_cons (pe_ix ix_tup (pv 3) pe_int (fun _ _ => rfl)) pa_nil))) (pa_cons (C8.pe_c crow_product hr (by decide) (by rfl) (pa_cons (pe_ix ix_tup (pv 2) pe_int (fun _ _ => rfl)) (pa_cons (pe_ix ix_tup (pv 3) pe_int (fun _ _ => rfl)) pa_nil))) pa_nil)))) (pss_cons (ps_set (i := 5) sc.nd rfl (Or.inl rfl) (C8.pe_c crow_quotient hr (by decide) (by rfl) (pa_cons (C8.pe_c crow_less hr (by decide) (by rfl) (pa_cons (C8.pe_c crow_product hr (by decide) (by rfl) (pa_cons (pv 0) (pa_cons (pe_ix ix_tup (pv 3) pe_int (fun _ _ => rfl)) pa_nil))) (pa_cons (C8.pe_c crow_product hr (by decide) (by rfl) (pa_cons (pv 1) (pa_cons (pe_ix ix_tup (pv 2) pe_int (fun _ _ => rfl)) pa_nil))) pa_nil))) (pa_cons (pv 4) pa_nil)))) (pss_cons (ps_set (i := 6) sc.nd rfl (Or.inl rfl) (C8.pe_c crow_quotient hr (by decide) (by rfl) (pa_cons (C8.pe_c crow_less hr (by decide) (by rfl) (pa_cons (C8.pe_c crow_product hr (by decide) (by rfl) (pa_cons (pe_ix ix_tup (pv 2) pe_int (fun _ _ => rfl)) (pa_cons (pv 1) pa_nil))) (pa_cons (C8.pe_c crow_product hr (by decide) (by rfl) (pa_cons (pe_ix ix_tup (pv 3) pe_int (fun _ _ => rfl)) (pa_cons (pv 0) pa_nil))) pa_nil))) (pa_cons (pv 4) pa_nil)))) (pss_one (ps_ret (pe_ifExp (PW.pt (pw_or (pt_cmpR op_isN (pv 5) pe_non (nomark _)) (pw_or1 (pt_cmpR op_isN (pv 6) pe_non (nomark _))))) pe_non (pe_tup (pa_cons (pv 5) (pa_cons (pv 6) pa_nil))))))))), fun q hq => ?_⟩
  obtain ⟨c, o, a, b, a', b', res⟩ := q
  replace hq : BothOk c o a b a' b' res := hq
  refine b_asg (ed_call (callP (a * b', b * a') hq.s1) (ea_cons (ed_call (callP (a, b') hq.p1) (ea_cons (ed_fst (ed_var rfl)) (ea_cons (ed_snd (ed_var rfl)) ea_nil))) (ea_cons (ed_call (callP (b, a') hq.p2) (ea_cons (ed_snd (ed_var rfl)) (ea_cons (ed_fst (ed_var rfl)) ea_nil))) ea_nil))) ?_
  refine b_asg (ed_call (callP (c * b' - o * b, a * b' - b * a') hq.d1) (ea_cons (ed_call (callP (c * b', o * b) hq.s2) (ea_cons (ed_call (callP (c, b') hq.p3) (ea_cons (ed_var rfl) (ea_cons (ed_snd (ed_var rfl)) ea_nil))) (ea_cons (ed_call (callP (o, b) hq.p4) (ea_cons (ed_var rfl) (ea_cons (ed_snd (ed_var rfl)) ea_nil))) ea_nil))) (ea_cons (ed_var rfl) ea_nil))) ?_
  refine b_asg (ed_call (callP (a * o - a' * c, a * b' - b * a') hq.d2) (ea_cons (ed_call (callP (a * o, a' * c) hq.s3) (ea_cons (ed_call (callP (a, o) hq.p5) (ea_cons (ed_fst (ed_var rfl)) (ea_cons (ed_var rfl) ea_nil))) (ea_cons (ed_call (callP (a', c) hq.p6) (ea_cons (ed_fst (ed_var rfl)) (ea_cons (ed_var rfl) ea_nil))) ea_nil))) (ea_cons (ed_var rfl) ea_nil))) ?_
  have eq := hq.eq
  show BdD _ _ (dD K (optPair res))
  rw [eq]
  generalize quo (c * b' - o * b) (a * b' - b * a') = x
  generalize quo (a * o - a' * c) (a * b' - b * a') = y
  refine b_ret (ed_if (eb_or (eb_isNone (o := x) (ed_var rfl)) fun _ => eb_isNone (o := y) (ed_var rfl)) (fun e => ?_) (fun e => ?_))
  · have : (match x, y with | some x, some y => some (x, y) | _, _ => (none : Option (L × L))) = none := by
      cases x with
      | none => rfl
      | some x => cases y with
        | none => rfl
        | some y => cases e
    rw [this]
    exact ed_c fun H => .non
  · cases x with
    | none => cases e
    | some x => cases y with
      | none => cases e
      | some y => exact ed_tup (xs := [pD x, pD y]) (ea_cons (ed_var rfl) (ea_cons (ed_var rfl) ea_nil)) (by simp)
theorem c_lone_direction : C8.Cal P w K mg base 7 "lone_direction" (spF (fun q : (L × L) × (L × L) × L × L × L × L × L => LoneOk q.1 q.2.1 q.2.2.1 q.2.2.2.1 q.2.2.2.2.1 q.2.2.2.2.2.1 q.2.2.2.2.2.2) (fun q => [dD K (pairD q.1.1 q.1.2), dD K (pairD q.2.1.1 q.2.1.2)]) (fun q => dD K (pairD q.2.2.2.2.2.1 q.2.2.2.2.2.2))) [] := by
  have mtuple := F.m_tuple
  obtain ⟨aNOTHING, gNOTHING0, hNOTHING⟩ := F.g_NOTHING
  have gNOTHING : ∃ u, mg "NOTHING" = some u ∧ RelV (V.ref aNOTHING) u := ⟨_, gNOTHING0, rfl⟩
  have cfactors_for := c_factors_for (P := P) (w := w) (base := base) F
  have crow_quotient := c_row_quotient (P := P) (w := w) (base := base) F
  refine fn_ok F.f_lone_direction (N := ["mine", "its", "pair", "common", "each"]) (C8.fnScope_by (by decide +kernel)) (fun _ => rfl) fun sc cdv A outer s H E f hr => ⟨_, (pss_cons (ps_set (i := 2) sc.nd rfl (Or.inl rfl) (pe_ifExp (pt_cmpR (op_neD hr.units) (pv 0) (C8.pe_gc rfl gNOTHING) (nomark _)) (pv 0) (pv 1))) (pss_cons (ps_set (i := 3) sc.nd rfl (Or.inr rfl) (pe_ix ix_tup (C8.pe_c cfactors_for hr (by decide) (by rfl) (pa_cons (pe_ix ix_tup (pv 2) pe_int (fun _ _ => rfl)) (pa_cons (pe_ix ix_tup (pv 2) pe_int (fun _ _ => rfl)) pa_nil))) pe_int (fun _ _ => rfl))) (pss_one (ps_ret (pe_callTy call_tuple_of (by rfl) mtuple (by decide +kernel) (pa_cons (pe_lc (own := [("each", 4)]) rfl sc.nd (pi_tup (pv 2)) (blkOk_by (by change blkC ["mine", "its", "pair", "common", "each"] (C8.fnScope (topS 52)) _ _ = true; decide +kernel)) (fun _ _ _ _ _ => (pg_name (i := 4) sc.nd rfl (by first | exact Or.inl rfl | exact Or.inr rfl))) (fun _ _ _ _ _ => pts_nil) (fun _ _ _ _ _ => (C8.pe_c crow_quotient hr (by decide) (by rfl) (pa_cons (pv 4) (pa_cons (pv 3) pa_nil))))) pa_nil)))))), fun q hq => ?_⟩
  obtain ⟨m, t, A1, B1, g, u, v⟩ := q
  replace hq : LoneOk m t A1 B1 g u v := hq
  refine b_asg (d1 := dD K (pairD (pick m t).1 (pick m t).2)) (ed_if (eb_neNo (ed_var rfl) hNOTHING) (fun e => ?_) (fun e => ?_)) ?_
  · have e : isNo m = false := by simpa using e
    unfold pick
    rw [e]
    exact ed_var rfl
  · have e : isNo m = true := by simpa using e
    unfold pick
    rw [e]
    exact ed_var rfl
  · have q1 := hq.q1
    have q2 := hq.q2
    have d1 := hq.d1
    have d2 := hq.d2
    have run := hq.run
    generalize (pick m t).1 = one at *
    generalize (pick m t).2 = two at *
    refine b_asg (d1 := dD K (pD g)) (ed_op (op_ixTP (by rfl)) (ed_call (callP (one, two, A1, B1, g) run) (ea_cons (ed_fst (ed_var rfl)) (ea_cons (ed_snd (ed_var rfl)) ea_nil))) ed_v) ?_
    refine b_ret (EvD.imp (ed_cb rc_tuple (ea_cons (ed_lcT (K := K) (dl := [dD K (pD one), dD K (pD two)]) (p := fun _ => true) (f := fun j => if j = 0 then dD K (pD u) else dD K (pD v)) ((ed_var rfl).imp (imp_tup' (xs := [pD one, pD two]))) (by simp) (by simp) (fun _ _ _ => eb_yes) (fun j d hd _ => ?_) (fun j d hd _ => ?_)) ea_nil)) (imp_tup (xs := [pD u, pD v])))
    · have : ∃ a b : L, DqOk a g ∧ quo a g = some b ∧ d = dD K (pD a) ∧ (if j = 0 then dD K (pD u) else dD K (pD v)) = dD K (pD b) := by
        match j, hd with
        | 0, hd => exact ⟨_, _, d1, q1, (Option.some.inj hd).symm, rfl⟩
        | 1, hd => exact ⟨_, _, d2, q2, (Option.some.inj hd).symm, rfl⟩
        | j + 2, hd => simp at hd
      obtain ⟨a, b, h1, h2, rfl, e⟩ := this
      show EvD _ _ (if j = 0 then _ else _)
      rw [e]
      exact EvD.imp (ed_call (callP (a, g) h1) (ea_cons (ed_var rfl) (ea_cons (ed_var rfl) ea_nil))) (imp_eq (by show dD K (optP (quo a g)) = _; rw [h2]; rfl))
    · split
      · exact stiff_p
      · exact stiff_p
theorem c_times_of : C8.Cal P w K mg base 6 "times_of" (spF (fun q : (L × L) × (L × L) × L => TimesOk q.1 q.2.1 q.2.2) (fun q => [dD K (pairD q.1.1 q.1.2), dD K (pairD q.2.1.1 q.2.1.2)]) (fun q => dD K (pD q.2.2))) [] := by
  have crow_quotient := c_row_quotient (P := P) (w := w) (base := base) F
  obtain ⟨aNOUGHT, gNOUGHT0, hNOUGHT⟩ := F.g_NOUGHT
  have gNOUGHT : ∃ u, mg "NOUGHT" = some u ∧ RelV (V.ref aNOUGHT) u := ⟨_, gNOUGHT0, rfl⟩
  refine fn_ok F.f_times_of (N := ["pair", "lone", "at"]) (C8.fnScope_by (by decide +kernel)) (fun _ => rfl) fun sc cdv A outer s H E f hr => ⟨_, (pss_cons (ps_set (i := 2) sc.nd rfl (Or.inl rfl) (pe_ifExp (pt_cmpR (op_neD hr.units) (pe_ix ix_tup (pv 1) pe_int (fun _ _ => rfl)) (C8.pe_gc rfl gNOUGHT) (nomark _)) pe_int pe_int)) (pss_one (ps_ret (C8.pe_c crow_quotient hr (by decide) (by rfl) (pa_cons (pe_ix ix_tup (pv 0) (pv 2) (fun _ _ => rfl)) (pa_cons (pe_ix ix_tup (pv 1) (pv 2) (fun _ _ => rfl)) pa_nil)))))), fun q hq => ?_⟩
  obtain ⟨m, l, x⟩ := q
  replace hq : TimesOk m l x := hq
  obtain ⟨d, hqq⟩ := hq
  refine b_asg (d1 := dV (.int (if isZ l.1 then 1 else 0))) (ed_if (eb_neN (ed_fst (ed_var rfl)) hNOUGHT) (fun e => ?_) (fun e => ?_)) ?_
  · have e : isZ l.1 = false := by simpa using e
    rw [e]
    exact ed_v
  · have e : isZ l.1 = true := by simpa using e
    rw [e]
    exact ed_v
  · have key : ∀ (y : L × L), atI [pD y.1, pD y.2] (if isZ l.1 then 1 else 0) = some (pD (sel l y)) := fun y => by
      unfold sel
      cases isZ l.1 <;> rfl
    exact b_ret (EvD.imp (ed_call (callP (sel l m, sel l l) d) (ea_cons (ed_op (op_ixT (xs := [pD m.1, pD m.2]) (key m)) (ed_var rfl) (ed_var rfl)) (ea_cons (ed_op (op_ixT (xs := [pD l.1, pD l.2]) (key l)) (ed_var rfl) (ed_var rfl)) ea_nil))) (imp_eq (by show dD K (optP (quo (sel l m) (sel l l))) = _; rw [hqq]; rfl)))
end
end K65

/-! K65Z: the splitter read -/
namespace K65
open PySem PySem.Spec PyProof.Rows L2
noncomputable def toldOf (res res' : Option (L × L)) : Option (L × L) := match res, res' with
  | some a, some b => some (led a, led b)
  | _, _ => none
section
variable {P : Program} {w : World} {mg : Str → Option Value} {base : Heap} {K : PySem.W.Frag} {ds ds' ds1 : List (Option DP)} {te tl th : TE} {ta : TA} {tt : TT} {t u : TS} {d d1 d2 : DP} {dl : List DP}
theorem cal_at {k : Nat} {x : Str} {sp : Sp} (c : C8.Cal P w K mg base k x sp []) : ∃ f, mg x = some (.ref f) ∧ C8.CalAt P w K mg base k f sp := by
  obtain ⟨f, fd, ps, us, F, hm, kp, b, v⟩ := c.ex
  cases v
  exact ⟨f, hm, fd, ps, F, kp, b⟩
theorem ed_callV1 {i : Nat} {f1 f2 : Addr} {sp1 sp2 : Sp} (hi : ds[i]? = some (some (dV (.ref f1)))) (hs : CallP sp1 dl d) (h : EvA ta ds dl) : EvD (C8.tCallV i f1 f2 sp1 sp2 ta) ds d := fun σ H s Q q => by
  obtain ⟨v, h1, h2⟩ := s.at' i _ hi
  cases h2
  exact .inl ⟨h1, h σ H s _ fun vs H1 e1 hvs => hs vs H1 hvs Q _ fun v H2 e2 hv => q v H2 (e1.trans e2) hv⟩
theorem ed_callV2 {i : Nat} {f1 f2 : Addr} {sp1 sp2 : Sp} (hi : ds[i]? = some (some (dV (.ref f2)))) (hs : CallP sp2 dl d) (h : EvA ta ds dl) : EvD (C8.tCallV i f1 f2 sp1 sp2 ta) ds d := fun σ H s Q q => by
  obtain ⟨v, h1, h2⟩ := s.at' i _ hi
  cases h2
  exact .inr ⟨h1, h σ H s _ fun vs H1 e1 hvs => hs vs H1 hvs Q _ fun v H2 e2 hv => q v H2 (e1.trans e2) hv⟩
variable (F : Facts K mg)
include F
theorem c_row_along : C8.Cal P w K mg base 8 "row_along" (spF (fun q : L × L × (L × L) × (L × L) × Option (L × L) => AlongOk q.1 q.2.1 q.2.2.1 q.2.2.2.1 q.2.2.2.2) (fun q => [dD K (pD q.1), dD K (pD q.2.1), dD K (pairD q.2.2.1.1 q.2.2.1.2), dD K (pairD q.2.2.2.1.1 q.2.2.2.1.2)]) (fun q => dD K (optPair q.2.2.2.2))) [] := by
  have clone_direction := c_lone_direction (P := P) (w := w) (base := base) F
  have ctable_row := c_table_row (P := P) (w := w) (base := base) F
  obtain ⟨aNOTHING, gNOTHING0, hNOTHING⟩ := F.g_NOTHING
  have gNOTHING : ∃ u, mg "NOTHING" = some u ∧ RelV (V.ref aNOTHING) u := ⟨_, gNOTHING0, rfl⟩
  have ctimes_of := c_times_of (P := P) (w := w) (base := base) F
  obtain ⟨aNOUGHT, gNOUGHT0, hNOUGHT⟩ := F.g_NOUGHT
  have gNOUGHT : ∃ u, mg "NOUGHT" = some u ∧ RelV (V.ref aNOUGHT) u := ⟨_, gNOUGHT0, rfl⟩
  have crow_quotient := c_row_quotient (P := P) (w := w) (base := base) F
  have crow_product := c_row_product (P := P) (w := w) (base := base) F
  refine fn_ok F.f_row_along (N := ["channel", "other", "mine", "its", "lone", "first", "second", "wanted"]) (C8.fnScope_by (by decide +kernel)) (fun _ => rfl) fun sc cdv A outer s H E f hr => ⟨_, (pss_cons (ps_if (PW.pt (pw_and (pt_cmpR (op_eqD hr.units) (pv 2) (C8.pe_gc rfl gNOTHING) (nomark _)) (pw_and1 (pt_cmpR (op_eqD hr.units) (pv 3) (C8.pe_gc rfl gNOTHING) (nomark _))))) (pss_one (ps_ret (pe_ifExp (PW.pt (pw_and (pt_cmpR (op_eqD hr.units) (pv 0) (C8.pe_gc rfl gNOUGHT) (nomark _)) (pw_and1 (pt_cmpR (op_eqD hr.units) (pv 1) (C8.pe_gc rfl gNOUGHT) (nomark _))))) (C8.pe_gc rfl gNOTHING) pe_non))) pss_nil) (pss_cons (ps_set (i := 4) sc.nd rfl (Or.inl rfl) (C8.pe_c clone_direction hr (by decide) (by rfl) (pa_cons (pv 2) (pa_cons (pv 3) pa_nil)))) (pss_cons (ps_par (i := 5) (j := 6) rfl sc.nd rfl rfl (by decide) rfl rfl (pa_cons (C8.pe_c ctimes_of hr (by decide) (by rfl) (pa_cons (pv 2) (pa_cons (pv 4) pa_nil))) (pa_cons (C8.pe_c ctimes_of hr (by decide) (by rfl) (pa_cons (pv 3) (pa_cons (pv 4) pa_nil))) pa_nil)) (by rfl)) (pss_cons (ps_set (i := 7) sc.nd rfl (Or.inl rfl) (pe_ifExp (pt_cmpR (op_neD hr.units) (pv 5) (C8.pe_gc rfl gNOUGHT) (nomark _)) (C8.pe_c crow_quotient hr (by decide) (by rfl) (pa_cons (pv 0) (pa_cons (pv 5) pa_nil))) (C8.pe_c crow_quotient hr (by decide) (by rfl) (pa_cons (pv 1) (pa_cons (pv 6) pa_nil))))) (pss_cons (ps_if (PW.pt (pw_or (pt_cmpR op_isN (pv 7) pe_non (nomark _)) (pw_or (pt_cmpR (op_neD hr.units) (C8.pe_c crow_product hr (by decide) (by rfl) (pa_cons (pv 5) (pa_cons (pv 7) pa_nil))) (pv 0) (nomark _)) (pw_or1 (pt_cmpR (op_neD hr.units) (C8.pe_c crow_product hr (by decide) (by rfl) (pa_cons (pv 6) (pa_cons (pv 7) pa_nil))) (pv 1) (nomark _)))))) (pss_one (ps_ret pe_non)) pss_nil) (pss_one (ps_ret (C8.pe_c ctable_row hr (by decide) (by rfl) (pa_cons (pv 7) (pa_cons (pv 4) pa_nil)))))))))), fun q hq => ?_⟩
  obtain ⟨c, o, m, t, res⟩ := q
  replace hq : AlongOk c o m t res := hq
  refine b_if (eb_and (eb_isNo (q := m) (ed_var rfl) hNOTHING) fun _ => eb_isNo (q := t) (ed_var rfl) hNOTHING) (fun e => ?_) (fun e => ?_)
  · rw [Bool.and_eq_true, isNo_iff, isNo_iff] at e
    have := hq.no (Prod.ext e.1.1 e.1.2) (Prod.ext e.2.1 e.2.2)
    show BdD _ _ (dD K (optPair res))
    rw [this]
    refine b_ret (ed_if (eb_and (eb_isN (p := c) (ed_var rfl) hNOUGHT) fun _ => eb_isN (p := o) (ed_var rfl) hNOUGHT) (fun e => ?_) (fun e => ?_))
    · rw [if_pos e]
      exact ed_No hNOTHING
    · rw [if_neg (by rw [e]; decide)]
      exact ed_c fun H => .non
  · obtain ⟨A1, B1, g, u, v, x, y, lo, t1, t2, w1, w2, nx, eq⟩ := hq.ex (fun z => by
      rw [Bool.and_eq_false_iff] at e
      rcases e with e | e
      · have : isNo m = true := isNo_iff.mpr (by rw [z.1]; exact ⟨rfl, rfl⟩)
        rw [this] at e
        cases e
      · have : isNo t = true := isNo_iff.mpr (by rw [z.2]; exact ⟨rfl, rfl⟩)
        rw [this] at e
        cases e)
    show BdD _ _ (dD K (optPair res))
    rw [eq]
    refine b_asg (ed_call (callP (m, t, A1, B1, g, u, v) lo) (ea_cons (ed_var rfl) (ea_cons (ed_var rfl) ea_nil))) ?_
    refine b_st (st_par (ea_cons (ed_call (callP (m, (u, v), x) t1) (ea_cons (ed_var rfl) (ea_cons (ed_var rfl) ea_nil))) (ea_cons (ed_call (callP (t, (u, v), y) t2) (ea_cons (ed_var rfl) (ea_cons (ed_var rfl) ea_nil))) ea_nil))) ?_
    refine b_asg (d1 := dD K (optP (wantOf c o x y))) (ed_if (eb_neN (p := x) (ed_var rfl) hNOUGHT) (fun e => ?_) (fun e => ?_)) ?_
    · have e : isZ x = false := by simpa using e
      unfold wantOf
      rw [e]
      exact ed_call (callP (c, x) (w1 e)) (ea_cons (ed_var rfl) (ea_cons (ed_var rfl) ea_nil))
    · have e : isZ x = true := by simpa using e
      unfold wantOf
      rw [e]
      exact ed_call (callP (o, y) (w2 e)) (ea_cons (ed_var rfl) (ea_cons (ed_var rfl) ea_nil))
    · unfold alongRes
      cases hw : wantOf c o x y with
      | none =>
        refine b_if (b1 := true) (eb_or (b1 := true) (b2 := true) (eb_isNone (o := none) (ed_var rfl)) fun z => nomatch z) (fun _ => b_ret (ed_c fun H => .non)) fun z => nomatch z
      | some wt =>
        obtain ⟨p1, p2, tb⟩ := nx wt hw
        refine b_if (b1 := (false || (!eqL (x * wt) c || !eqL (y * wt) o))) (eb_or (eb_isNone (o := some wt) (ed_var rfl)) fun _ => eb_or (eb_neL (ed_call (callP (x, wt) p1) (ea_cons (ed_var rfl) (ea_cons (ed_var rfl) ea_nil))) (ed_var rfl)) fun _ => eb_neL (ed_call (callP (y, wt) p2) (ea_cons (ed_var rfl) (ea_cons (ed_var rfl) ea_nil))) (ed_var rfl)) (fun e => ?_) (fun e => ?_)
        · have : (eqL (x * wt) c && eqL (y * wt) o) = false := by
            cases h1 : eqL (x * wt) c <;> cases h2 : eqL (y * wt) o <;> rw [h1, h2] at e <;> first | rfl | cases e
          show BdD _ _ (dD K (optPair (if (eqL (x * wt) c && eqL (y * wt) o) = true then _ else none)))
          rw [this]
          exact b_ret (ed_c fun H => .non)
        · have : eqL (x * wt) c = true ∧ eqL (y * wt) o = true := by
            cases h1 : eqL (x * wt) c <;> cases h2 : eqL (y * wt) o <;> rw [h1, h2] at e <;> first | exact ⟨rfl, rfl⟩ | cases e
          have tb := tb (eqL_iff.mp this.1) (eqL_iff.mp this.2)
          show BdD _ _ (dD K (optPair (if (eqL (x * wt) c && eqL (y * wt) o) = true then some (A1 * wt, B1 * wt) else none)))
          rw [this.1, this.2]
          exact b_ret (ed_call (callP (wt, u, v, A1, B1) tb) (ea_cons (ed_var rfl) (ea_cons (ed_var rfl) ea_nil)))
theorem c_read_by : C8.Cal P w K mg base 9 "read_by" (spF (fun q : L × (L × L) × L × (L × L) × Option (L × L) × Option (L × L) => ReadOk q.1 q.2.2.1 q.2.1 q.2.2.2.1 q.2.2.2.2.1 q.2.2.2.2.2) (fun q => [dD K (pD q.1), dD K (pairD q.2.1.1 q.2.1.2), dD K (pD q.2.2.1), dD K (pairD q.2.2.2.1.1 q.2.2.2.1.2)]) (fun q => dD K (optPair (toldOf q.2.2.2.2.1 q.2.2.2.2.2)))) [] := by
  have crow_along := c_row_along (P := P) (w := w) (base := base) F
  have crow_by_both := c_row_by_both (P := P) (w := w) (base := base) F
  have csplitter_by_rows := c_splitter_by_rows (P := P) (w := w) (base := base) F
  have cparts_of := c_parts_of (P := P) (w := w) (base := base) F
  obtain ⟨aNOUGHT, gNOUGHT0, hNOUGHT⟩ := F.g_NOUGHT
  have gNOUGHT : ∃ u, mg "NOUGHT" = some u ∧ RelV (V.ref aNOUGHT) u := ⟨_, gNOUGHT0, rfl⟩
  have cpair_determinant := c_pair_determinant (P := P) (w := w) (base := base) F
  have mrange := F.m_range
  obtain ⟨fA, gA, cAlong⟩ := cal_at crow_along
  obtain ⟨fB, gB, cBoth⟩ := cal_at crow_by_both
  have grow_along : ∃ u, mg "row_along" = some u ∧ RelV (V.ref fA) u := ⟨_, gA, rfl⟩
  have grow_by_both : ∃ u, mg "row_by_both" = some u ∧ RelV (V.ref fB) u := ⟨_, gB, rfl⟩
  refine fn_ok F.f_read_by (N := ["row", "channels", "other", "others", "mine", "its", "lead", "at"]) (C8.fnScope_by (by decide +kernel)) (fun _ => rfl) fun sc cdv A outer s H E f hr => ⟨_, (pss_cons (ps_asg (pe_tup (pa_cons (C8.pe_c cparts_of hr (by decide) (by rfl) (pa_cons (pv 0) pa_nil)) (pa_cons (C8.pe_c cparts_of hr (by decide) (by rfl) (pa_cons (pv 2) pa_nil)) pa_nil))) (pg_tup rfl (pgs_cons (pg_name (i := 4) sc.nd rfl (Or.inr rfl)) (pgs_cons (pg_name (i := 5) sc.nd rfl (Or.inr rfl)) pgs_nil)))) (pss_cons (ps_set (i := 6) sc.nd rfl (Or.inr rfl) (pe_ifExp (pt_cmpR (op_eqD hr.units) (C8.pe_c cpair_determinant hr (by decide) (by rfl) (pa_cons (pv 0) (pa_cons (pv 2) pa_nil))) (C8.pe_gc rfl gNOUGHT) (nomark _)) (C8.pe_gc rfl grow_along) (C8.pe_gc rfl grow_by_both))) (pss_one (ps_ret (C8.pe_c csplitter_by_rows hr (by decide) (by rfl) (pa_cons (pe_lc (own := [("at", 7)]) rfl sc.nd (pi_range1 (by rfl) mrange (pa_cons pe_int pa_nil)) (blkOk_by (by change blkC ["row", "channels", "other", "others", "mine", "its", "lead", "at"] (C8.fnScope (topS 55)) _ _ = true; decide +kernel)) (fun _ _ _ _ _ => (pg_name (i := 7) sc.nd rfl (by first | exact Or.inl rfl | exact Or.inr rfl))) (fun _ _ _ _ _ => pts_nil) (fun _ _ _ _ _ => (C8.pe_cv cAlong cBoth hr (by decide) (by decide) (i := 6) rfl (by first | exact Or.inl rfl | exact Or.inr (Or.inl rfl) | exact Or.inr (Or.inr rfl)) (pa_cons (pe_ix (r := rIxT K) ix_tup (pv 1) (pv 7) (fun _ _ => rfl)) (pa_cons (pe_ix (r := rIxT K) ix_tup (pv 3) (pv 7) (fun _ _ => rfl)) (pa_cons (pv 4) (pa_cons (pv 5) pa_nil))))))) pa_nil)))))), fun q hq => ?_⟩
  obtain ⟨r, ch, r', ch', res, res'⟩ := q
  replace hq : ReadOk r r' ch ch' res res' := hq
  obtain ⟨wr, wr', p1, p2, s1, l1, l2⟩ := hq
  refine b_tup2 (ed_tupP (K := K) (ea_cons (ed_call (callP r wr) (ea_cons (ed_var rfl) ea_nil)) (ea_cons (ed_call (callP r' wr') (ea_cons (ed_var rfl) ea_nil)) ea_nil)) (by simp)) ?_
  refine b_asg (d1 := dV (.ref (if isZ (even r * odd r' - odd r * even r') then fA else fB))) (ed_if (eb_isN (ed_call (callP (r, r') ⟨wr, wr', p1, p2, s1⟩) (ea_cons (ed_var rfl) (ea_cons (ed_var rfl) ea_nil))) hNOUGHT) (fun e => ?_) (fun e => ?_)) ?_
  · rw [if_pos e]
    exact ed_v
  · rw [if_neg (by rw [e]; decide)]
    exact ed_v
  · refine b_ret (EvD.imp (ed_call (callP (res, res') ⟨l1.sp, l2.sp⟩) (ea_cons (ed_lcR1 (K := K) (hi := 2) (p := fun _ => true) (f := fun j => dD K (optPair (if j = 0 then res else res'))) (ea_cons ed_v ea_nil) (by decide) (by decide) (by simp) (fun _ _ => eb_yes) (fun j hj _ => ?_) (fun j _ _ => ?_)) ea_nil)) (imp_eq ?_))
    · have : ∃ (c o : L) (rs : Option (L × L)), LeadOk r r' c o rs ∧ atI [pD ch.1, pD ch.2] (j : Int) = some (pD c) ∧ atI [pD ch'.1, pD ch'.2] (j : Int) = some (pD o) ∧ (if j = 0 then res else res') = rs := by
        match j, hj with
        | 0, _ => exact ⟨_, _, _, l1, rfl, rfl, rfl⟩
        | 1, _ => exact ⟨_, _, _, l2, rfl, rfl, rfl⟩
        | j + 2, hj => omega
      obtain ⟨c, o, rs, lk, e1, e2, e3⟩ := this
      show EvD _ _ (dD K (optPair (if j = 0 then res else res')))
      rw [e3]
      cases hz : isZ (even r * odd r' - odd r * even r') with
      | true =>
        exact ed_callV1 (f1 := fA) (f2 := fB) (by rfl) (callP (c, o, (even r, odd r), (even r', odd r'), rs) (lk.along (isZ_iff.mp hz))) (ea_cons (ed_op (op_ixT (xs := [pD ch.1, pD ch.2]) e1) (ed_var rfl) (ed_var rfl)) (ea_cons (ed_op (op_ixT (xs := [pD ch'.1, pD ch'.2]) e2) (ed_var rfl) (ed_var rfl)) (ea_cons (ed_var rfl) (ea_cons (ed_var rfl) ea_nil))))
      | false =>
        exact ed_callV2 (f1 := fA) (f2 := fB) (by rfl) (callP (c, o, even r, odd r, even r', odd r', rs) (lk.both (isZ_not.mp hz))) (ea_cons (ed_op (op_ixT (xs := [pD ch.1, pD ch.2]) e1) (ed_var rfl) (ed_var rfl)) (ea_cons (ed_op (op_ixT (xs := [pD ch'.1, pD ch'.2]) e2) (ed_var rfl) (ed_var rfl)) (ea_cons (ed_var rfl) (ea_cons (ed_var rfl) ea_nil))))
    · refine stiff_D ?_
      generalize (if j = 0 then res else res') = rs
      cases rs with
      | none => rfl
      | some p => exact noL_pair _ _
    · show dD K (match (res, res') with | (some a, some b) => pairD (led a) (led b) | _ => PyData.none) = dD K (optPair (toldOf res res'))
      cases res with
      | none => rfl
      | some a => cases res' with
        | none => rfl
        | some b => rfl
/-- the splitter that is read, and what its check asks -/
structure SplitOk (r r' : L) (ch ch' : L × L) (res res' : Option (L × L)) : Prop where
  rd : ReadOk r r' ch ch' res res'
  w1 : W 400 ch.1 ∧ W 400 ch.2
  w2 : W 400 ch'.1 ∧ W 400 ch'.2
theorem c_splitter_read : C8.Cal P w K mg base 10 "splitter_read" (spF (fun q : L × (L × L) × L × (L × L) × Option (L × L) × Option (L × L) => SplitOk q.1 q.2.2.1 q.2.1 q.2.2.2.1 q.2.2.2.2.1 q.2.2.2.2.2) (fun q => [dD K (pD q.1), dD K (pairD q.2.1.1 q.2.1.2), dD K (pD q.2.2.1), dD K (pairD q.2.2.2.1.1 q.2.2.2.1.2)]) (fun q => dD K (optPair (toldOf q.2.2.2.2.1 q.2.2.2.2.2)))) [] := by
  have ccheck_row := c_check_row (P := P) (w := w) (base := base) F
  have ccheck_channels := c_check_channels (P := P) (w := w) (base := base) F
  have cread_by := c_read_by (P := P) (w := w) (base := base) F
  refine fn_ok F.f_splitter_read (N := ["row", "channels", "other", "others"]) (C8.fnScope_by (by decide +kernel)) (fun _ => rfl) fun sc cdv A outer s H E f hr => ⟨_, (pss_cons (ps_expr (C8.pe_c ccheck_row hr (by decide) (by rfl) (pa_cons (pv 0) pa_nil))) (pss_cons (ps_expr (C8.pe_c ccheck_channels hr (by decide) (by rfl) (pa_cons (pv 1) pa_nil))) (pss_cons (ps_expr (C8.pe_c ccheck_row hr (by decide) (by rfl) (pa_cons (pv 2) pa_nil))) (pss_cons (ps_expr (C8.pe_c ccheck_channels hr (by decide) (by rfl) (pa_cons (pv 3) pa_nil))) (pss_one (ps_ret (C8.pe_c cread_by hr (by decide) (by rfl) (pa_cons (pv 0) (pa_cons (pv 1) (pa_cons (pv 2) (pa_cons (pv 3) pa_nil))))))))))), fun q hq => ?_⟩
  obtain ⟨r, ch, r', ch', res, res'⟩ := q
  replace hq : SplitOk r r' ch ch' res res' := hq
  exact b_drop (ed_call (callP r hq.rd.wr) (ea_cons (ed_var rfl) ea_nil)) (b_drop (ed_call (callP ch hq.w1) (ea_cons (ed_var rfl) ea_nil)) (b_drop (ed_call (callP r' hq.rd.wr') (ea_cons (ed_var rfl) ea_nil)) (b_drop (ed_call (callP ch' hq.w2) (ea_cons (ed_var rfl) ea_nil)) (b_ret (ed_call (callP (r, ch, r', ch', res, res') hq.rd) (ea_cons (ed_var rfl) (ea_cons (ed_var rfl) (ea_cons (ed_var rfl) (ea_cons (ed_var rfl) ea_nil)))))))))
end
end K65

/-! K65LA: rules for lots -/
namespace K65
open PySem PySem.Spec PyProof.Rows L2

/-! ### lots compared -/
theorem sub_of_nodup {l1 : List Int} : ∀ {l2 : List Int}, l1.Nodup → (∀ x ∈ l1, x ∈ l2) → l2.length ≤ l1.length → ∀ x ∈ l2, x ∈ l1 := by
  induction l1 with
  | nil =>
    intro l2 _ _ hl x hx
    cases l2 with
    | nil => exact hx
    | cons a l => simp at hl
  | cons a l ih =>
    intro l2 nd hs hl x hx
    rw [List.nodup_cons] at nd
    have ha : a ∈ l2 := hs a List.mem_cons_self
    have := ih (l2 := l2.erase a) nd.2 (fun y hy => (List.mem_erase_of_ne (fun e : y = a => nd.1 (by rw [← e]; exact hy))).mpr (hs y (List.mem_cons_of_mem _ hy))) (by rw [List.length_erase_of_mem ha]; simp at hl; omega)
    by_cases e : x = a
    · rw [e]
      exact List.mem_cons_self
    · exact List.mem_cons_of_mem _ (this x ((List.mem_erase_of_ne e).mpr hx))
theorem lk_some_iff {t : Tm} {p : L} (h : LotOk t p) {k : Int} {q : Rat} : lk t k = some q ↔ p.co k = q ∧ q ≠ 0 := by
  rw [← h.mem]
  exact ⟨lk_mem, fun hm => lk_of_mem h.keys hm⟩
theorem lot_eq_iff {t t' : Tm} {p p' : L} (h : LotOk t p) (h' : LotOk t' p') : (t.length == t'.length && t.all fun x => decide (lk t' x.1 = some x.2)) = eqL p p' := by
  cases he : eqL p p' with
  | true =>
    have e := eqL_iff.mp he
    subst e
    have sub : ∀ {t t' : Tm}, LotOk t p → LotOk t' p → ∀ x ∈ t, lk t' x.1 = some x.2 := fun {t t'} h h' x hx => lk_of_mem h'.keys (h'.mem.mpr (h.mem.mp hx))
    have le : ∀ {t t' : Tm}, LotOk t p → LotOk t' p → t.length ≤ t'.length := fun {t t'} h h' => by
      have := sub_of_nodup (l1 := t'.map fun x : Int × Rat => x.1) (l2 := t.map fun x : Int × Rat => x.1) h'.keys (fun x hx => by
        obtain ⟨y, hy, rfl⟩ := List.mem_map.mp hx
        exact List.mem_map_of_mem (h.mem.mpr (h'.mem.mp hy)))
      by_cases hc : t.length ≤ t'.length
      · exact hc
      · exfalso
        -- a nodup list inside a shorter one
        have := sub_of_nodup (l1 := t.map fun x : Int × Rat => x.1) (l2 := t'.map fun x : Int × Rat => x.1) h.keys (fun x hx => by
          obtain ⟨y, hy, rfl⟩ := List.mem_map.mp hx
          exact List.mem_map_of_mem (h'.mem.mpr (h.mem.mp hy))) (by simp; omega)
        have nd : ∀ {l1 : List Int} {l2 : List Int}, l1.Nodup → (∀ x ∈ l1, x ∈ l2) → l1.length ≤ l2.length := by
          intro l1
          induction l1 with
          | nil => intro l2 _ _; exact Nat.zero_le _
          | cons a l ih =>
            intro l2 nd hs
            rw [List.nodup_cons] at nd
            have ha : a ∈ l2 := hs a List.mem_cons_self
            have := ih (l2 := l2.erase a) nd.2 (fun y hy => (List.mem_erase_of_ne (fun e : y = a => nd.1 (by rw [← e]; exact hy))).mpr (hs y (List.mem_cons_of_mem _ hy)))
            rw [List.length_erase_of_mem ha] at this
            have : 0 < l2.length := List.length_pos_of_mem ha
            simp
            omega
        have := nd (l1 := t.map fun x : Int × Rat => x.1) (l2 := t'.map fun x : Int × Rat => x.1) h.keys (fun x hx => by
          obtain ⟨y, hy, rfl⟩ := List.mem_map.mp hx
          exact List.mem_map_of_mem (h'.mem.mpr (h.mem.mp hy)))
        simp at this
        omega
    rw [Bool.and_eq_true]
    refine ⟨beq_iff_eq.mpr (Nat.le_antisymm (le h h') (le h' h)), List.all_eq_true.mpr fun x hx => decide_eq_true (sub h h' x hx)⟩
  | false =>
    have ne : p ≠ p' := fun e => by rw [eqL_iff.mpr e] at he; cases he
    rw [← Bool.not_eq_true]
    intro hh
    rw [Bool.and_eq_true, List.all_eq_true] at hh
    obtain ⟨h1, h2⟩ := hh
    have h1 := beq_iff_eq.mp h1
    have s1 : ∀ x ∈ t, p'.co x.1 = x.2 := fun x hx => ((lk_some_iff h').mp (of_decide_eq_true (h2 x hx))).1
    have s2 := sub_of_nodup (l1 := t.map fun x : Int × Rat => x.1) (l2 := t'.map fun x : Int × Rat => x.1) h.keys (fun x hx => by
      obtain ⟨y, hy, rfl⟩ := List.mem_map.mp hx
      have := lk_mem (of_decide_eq_true (h2 y hy))
      exact List.mem_map.mpr ⟨_, this, rfl⟩) (by simp; omega)
    refine ne (L.eq_of_co fun k => ?_)
    by_cases e : p.co k = 0
    · by_cases e' : p'.co k = 0
      · rw [e, e']
      · have : (k, p'.co k) ∈ t' := h'.mem.mpr ⟨rfl, e'⟩
        obtain ⟨y, hy, hy2⟩ := List.mem_map.mp (s2 k (List.mem_map.mpr ⟨_, this, rfl⟩))
        have := s1 y hy
        have := (h.mem (k := y.1) (q := y.2)).mp hy
        have hy2 : y.1 = k := hy2
        rw [hy2] at this
        exact absurd e (by rw [this.1]; exact this.2)
    · have : (k, p.co k) ∈ t := h.mem.mpr ⟨rfl, e⟩
      exact (s1 _ this).symm
section
variable {X : Cx}
def rEqK (K : PySem.W.Frag) : R2 := fun x y H Q => ∃ p p', (dLot K p).is x H ∧ (dLot K p').is y H ∧ Q (.bl (eqL p p')) H
def rNeK (K : PySem.W.Frag) : R2 := fun x y H Q => ∃ p p', (dLot K p).is x H ∧ (dLot K p').is y H ∧ Q (.bl (!eqL p p')) H
/-- what stands at a lot's address -/
theorem lot_at {pins : List (Addr × Obj)} {s : Shared} {σ : L2.St} {H : Hp} (I : Inv X pins σ H s) {a : Addr} {kvs : List (Key × V)} (h : H a = some (.dK kvs)) : (a == sysModules) = false ∧ ∃ vs, KV kvs vs ∧ s.heap.DictOf (mixKind X.prog X.w) a vs :=
  (show ObjOk X.prog X.w H s.heap a (.dK kvs) from I.hok a _ h).2
theorem rat_at {pins : List (Addr × Obj)} {s : Shared} {σ : L2.St} {H : Hp} (I : Inv X pins σ H s) {v y : V} {u w : Value} {q q' : Rat} (h1 : Dp X.K H v (ratD q)) (h2 : Dp X.K H y (ratD q')) (r1 : RelV v u) (r2 : RelV y w) (A : Around) (hu : A.units + 64 < cLine) : SeqAt.EqAt A s u w (decide (q = q')) := by
  obtain ⟨as, ra⟩ := Dp.reads I _ v u h1 r1
  obtain ⟨bs, rb⟩ := Dp.reads I _ y w h2 r2
  rw [← eqv_rat]
  exact SeqAt.eqAt_reads _ _ A s u w as bs ra rb (SeqAt.canLay_of_shaped (shaped_rat q)) (SeqAt.canLay_of_shaped (shaped_rat q')) (SeqAt.room_of_shaped (shaped_rat q) hu)
theorem rat_inj {pins : List (Addr × Obj)} {s : Shared} {σ : L2.St} {H : Hp} (I : Inv X pins σ H s) {v : V} {q q' : Rat} (h1 : Dp X.K H v (ratD q)) (h2 : Dp X.K H v (ratD q')) : q = q' := by
  obtain ⟨a, vs, e1, h3, h4⟩ := imp_tup' (K := X.K) (xs := [.int q.num, .int q.den]) v H h1
  obtain ⟨b, us, e2, h5, h6⟩ := imp_tup' (K := X.K) (xs := [.int q'.num, .int q'.den]) v H h2
  rw [e1] at e2
  cases e2
  have := I.tuple_inj h3 h5
  subst this
  cases h4 with
  | cons x1 r1 => cases r1 with
    | cons x2 r2 => cases h6 with
      | cons y1 r3 => cases r3 with
        | cons y2 r4 =>
          have a1 := imp_int _ _ x1
          have a2 := imp_int _ _ x2
          have b1 := imp_int _ _ y1
          have b2 := imp_int _ _ y2
          have e1 := V.int.inj (a1.symm.trans b1)
          have e2 := V.int.inj (a2.symm.trans b2)
          exact rat_ext e1 (by omega)
theorem lot_hits {pins : List (Addr × Obj)} {s : Shared} {σ : L2.St} {H : Hp} (I : Inv X pins σ H s) {A : Around} (hu : A.units + 64 < cLine) {ls : List (Key × V)} {t' : Tm} {vb : List (Key × Value)} (hl : LotIs X.K H ls t') (rb : KV ls vb) :
    ∀ {ks : List (Key × V)} {t : Tm} {va : List (Key × Value)}, LotIs X.K H ks t → KV ks va → PySem.W.KeqHits A s vb va (t.all fun x => decide (lk t' x.1 = some x.2)) := by
  intro ks t va hk
  unfold LotIs at hk
  induction hk generalizing va with
  | nil =>
    intro ra
    cases ra
    exact .nil
  | @cons kv x ks t a hr ih =>
    intro ra
    cases ra with
    | @cons _ kw _ va e ra =>
      obtain ⟨k, u⟩ := kw
      obtain ⟨e1, e2⟩ := e
      have e1 : kv.1 = k := e1
      subst e1
      have hv := rb.val kv.1
      rw [List.all_cons]
      rw [a.1] at hv ⊢
      rcases hl.val x.1 with ⟨z1, z2⟩ | ⟨q, v, z1, z2, z3⟩
      · rw [z2] at hv
        cases hb : valueAt vb (Sum.inl x.1) with
        | some y => rw [hb] at hv; cases hv
        | none =>
          rw [z1, decide_eq_false (by intro z; cases z), Bool.false_and]
          exact .miss hb
      · rw [z2] at hv
        cases hb : valueAt vb (Sum.inl x.1) with
        | none => rw [hb] at hv; cases hv
        | some y =>
          rw [hb] at hv
          rw [z1]
          have : decide (some q = some x.2) = decide (x.2 = q) := by
            by_cases e : x.2 = q
            · rw [e]
              simp
            · rw [decide_eq_false e, decide_eq_false]
              intro z
              exact e (Option.some.inj z).symm
          rw [this]
          exact .hit hb (rat_at I a.2 z3 e2 hv A hu) (ih ra)
theorem op_eqK (hu : X.A.units + 70 < cLine) : OpR X (compareOp .Eq) (rEqK X.K) := by
  intro pins s σ H x y v u Q I rx ry h
  obtain ⟨p, p', ⟨t, ok, a, ks, rfl, ha, hk⟩, ⟨t', ok', b, ls, rfl, hb, hl⟩, q⟩ := h
  obtain rfl : v = Value.ref a := rx
  obtain rfl : u = Value.ref b := ry
  obtain ⟨ya, va, ra, da⟩ := lot_at I ha
  obtain ⟨yb, vb, rb, db⟩ := lot_at I hb
  refine PySem.W.keq_eq (knd := mixKind X.prog X.w) ya yb da db (by omega) (fun _ => lot_hits I (by show X.A.units + 1 + 64 < cLine; omega) hl rb hk ra) (fin_bl I q ?_)
  rw [← lot_eq_iff ok ok', ← ra.length, ← rb.length, hk.length, hl.length]
theorem op_neK (hu : X.A.units + 70 < cLine) : OpR X (compareOp .NotEq) (rNeK X.K) := by
  intro pins s σ H x y v u Q I rx ry h
  obtain ⟨p, p', ⟨t, ok, a, ks, rfl, ha, hk⟩, ⟨t', ok', b, ls, rfl, hb, hl⟩, q⟩ := h
  obtain rfl : v = Value.ref a := rx
  obtain rfl : u = Value.ref b := ry
  obtain ⟨ya, va, ra, da⟩ := lot_at I ha
  obtain ⟨yb, vb, rb, db⟩ := lot_at I hb
  refine PySem.W.keq_ne (knd := mixKind X.prog X.w) ya yb da db (by omega) (fun _ => lot_hits I (by show X.A.units + 1 + 64 < cLine; omega) hl rb hk ra) (fin_bl I q ?_)
  rw [← lot_eq_iff ok ok', ← ra.length, ← rb.length, hk.length, hl.length]
/-- one lot in a list, compared -/
theorem lot_tree {pins : List (Addr × Obj)} {s : Shared} {σ : L2.St} {H : Hp} (I : Inv X pins σ H s) {x y : V} {v u : Value} {p p' : L} (h1 : (dLot X.K p).is x H) (h2 : (dLot X.K p').is y H) (rx : RelV x v) (ry : RelV y u) : PySem.W.EqTree X.prog X.w s 65 v u (eqL p p') := by
  obtain ⟨t, ok, a, ks, rfl, ha, hk⟩ := h1
  obtain ⟨t', ok', b, ls, rfl, hb, hl⟩ := h2
  obtain rfl : v = Value.ref a := rx
  obtain rfl : u = Value.ref b := ry
  obtain ⟨ya, va, ra, da⟩ := lot_at I ha
  obtain ⟨yb, vb, rb, db⟩ := lot_at I hb
  by_cases e : a = b
  · subst e
    rw [ha] at hb
    cases hb
    have : t = t' := by
      clear ok ok' ra rb da db ha
      unfold LotIs at hk hl
      induction hk generalizing t' with
      | nil => cases hl; rfl
      | @cons kv x ks t a hr ih =>
        cases hl with
        | @cons _ z _ t' b hr2 =>
          have e1 : x.1 = z.1 := Sum.inl.inj (a.1.symm.trans b.1)
          have e2 : x.2 = z.2 := rat_inj I a.2 b.2
          rw [ih _ hr2, Prod.ext e1 e2]
    subst this
    have : eqL p p' = true := eqL_iff.mpr (by rw [← ok.eq, ← ok'.eq])
    rw [this]
    exact .same
  · have tr : ∀ (k : Key) (v y : Value), (k, v) ∈ va → valueAt vb k = some y → PySem.W.EqTree X.prog X.w s 64 v y (match k with | .inl i => decide (lk t i = lk t' i) | _ => true) := fun k v y hm hv => by
      obtain ⟨w0, x, hx, h1, h2⟩ : ∃ (w0 : V) (x : Int × Rat), x ∈ t ∧ k = Sum.inl x.1 ∧ Dp X.K H w0 (ratD x.2) ∧ RelV w0 v := by
        clear ok da ha
        unfold LotIs at hk
        induction hk generalizing va with
        | nil => cases ra; cases hm
        | @cons kv x ks t a hr ih =>
          cases ra with
          | @cons _ kw _ va e ra =>
            rcases List.mem_cons.mp hm with z | z
            · subst z
              exact ⟨kv.2, x, List.mem_cons_self, e.1.symm.trans a.1, a.2, e.2⟩
            · obtain ⟨w0, x, h1, h2, h3⟩ := ih _ ra z
              exact ⟨w0, x, List.mem_cons_of_mem _ h1, h2, h3⟩
      subst h1
      have hq := lk_of_mem ok.keys hx
      have hb2 := rb.val (Sum.inl x.1)
      rw [hv] at hb2
      rcases hl.val x.1 with ⟨z1, z2⟩ | ⟨q, v2, z1, z2, z3⟩
      · rw [z2] at hb2
        cases hb2
      · rw [z2] at hb2
        show PySem.W.EqTree X.prog X.w s 64 v y (decide (lk t x.1 = lk t' x.1))
        rw [hq, z1]
        have : decide (some x.2 = some q) = decide (x.2 = q) := by
          by_cases e : x.2 = q
          · rw [e]
            simp
          · rw [decide_eq_false e, decide_eq_false]
            intro z
            exact e (Option.some.inj z)
        rw [this]
        exact .leaf fun A hu => rat_at I h2.1 z3 h2.2 hb2 A hu
    have := PySem.W.EqTree.dicts (knd := mixKind X.prog X.w) e ya yb da db tr
    have key : (va.length == vb.length && va.all fun p => (valueAt vb p.1).isSome && (match p.1 with | .inl i => decide (lk t i = lk t' i) | _ => true)) = eqL p p' := by
      rw [← lot_eq_iff ok ok', ← ra.length, ← rb.length, hk.length, hl.length]
      congr 1
      have all : ∀ {t0 : Tm} {ks : List (Key × V)} {va : List (Key × Value)}, (∀ x ∈ t0, lk t x.1 = some x.2) → LotIs X.K H ks t0 → KV ks va → (va.all fun p => (valueAt vb p.1).isSome && (match p.1 with | .inl i => decide (lk t i = lk t' i) | _ => true)) = t0.all fun x => decide (lk t' x.1 = some x.2) := by
        intro t0 ks va hall hk ra
        unfold LotIs at hk
        induction hk generalizing va with
        | nil => cases ra; rfl
        | @cons kv x ks t0 a hr ih =>
          cases ra with
          | @cons _ kw _ va e ra =>
            rw [List.all_cons, List.all_cons, ih (fun y hy => hall y (List.mem_cons_of_mem _ hy)) ra]
            congr 1
            have ek : kw.1 = Sum.inl x.1 := e.1.symm.trans a.1
            rw [ek]
            show ((valueAt vb (Sum.inl x.1)).isSome && decide (lk t x.1 = lk t' x.1)) = _
            rw [hall x List.mem_cons_self]
            have hb2 := rb.val (Sum.inl x.1)
            rcases hl.val x.1 with ⟨z1, z2⟩ | ⟨q, v2, z1, z2, z3⟩
            · rw [z2] at hb2
              cases hb : valueAt vb (Sum.inl x.1) with
              | some y => rw [hb] at hb2; cases hb2
              | none =>
                rw [z1]
                simp
            · rw [z2] at hb2
              cases hb : valueAt vb (Sum.inl x.1) with
              | none => rw [hb] at hb2; cases hb2
              | some y =>
                rw [z1]
                by_cases e : x.2 = q
                · rw [e]
                  simp
                · have e' : ¬ q = x.2 := fun z => e z.symm
                  simp [e, e']
      exact all (fun x hx => lk_of_mem ok.keys hx) hk ra
    rw [key] at this
    exact this
end
/-! ### dicts: what stands whatever becomes of dicts -/
def Dky (d : DP) : Prop := ∀ v H H', (∀ b o, H b = some o → (∀ kvs, o ≠ .dK kvs) → (∀ od kvs, o ≠ .frz od (.dK kvs)) → H' b = some o) → d.is v H → d.is v H'
/-- all but dicts stands -/
def KeepD (H H' : Hp) : Prop := ∀ b o, H b = some o → (∀ kvs, o ≠ .dK kvs) → (∀ od kvs, o ≠ .frz od (.dK kvs)) → H' b = some o
section
variable {K : PySem.W.Frag} {As : List Addr} {ds ds1 ds2 ds' : List (Option DP)} {te to ti tl th : TE} {tt : TT} {ta : TA} {t u : TS} {d d1 d2 : DP} {dl : List DP} {A : Addr}
theorem keepD_l {H H' : Hp} {a : Addr} {xs : List V} (e : KeepD H H') (h : SqL K H a xs) : SqL K H' a xs := by
  rcases h with (h | ⟨o, h⟩) | h
  · exact .inl (.inl (e _ _ h (fun _ z => nomatch z) fun _ _ z => nomatch z))
  · exact .inl (.inr ⟨o, e _ _ h (fun _ z => nomatch z) fun _ _ z => by cases z⟩)
  · exact .inr h
theorem keepD_t {H H' : Hp} {a : Addr} {xs : List V} (e : KeepD H H') (h : SqT K H a xs) : SqT K H' a xs := by
  rcases h with (h | ⟨o, h⟩) | h
  · exact .inl (.inl (e _ _ h (fun _ z => nomatch z) fun _ _ z => nomatch z))
  · exact .inl (.inr ⟨o, e _ _ h (fun _ z => nomatch z) fun _ _ z => by cases z⟩)
  · exact .inr h
mutual
theorem dp_keepD {H H' : Hp} (e : KeepD H H') : ∀ (d : PyData) (v : V), Dp K H v d → Dp K H' v d
  | _, _, .non => .non
  | _, _, .bl b => .bl b
  | _, _, .int i => .int i
  | _, _, .str x => .str x
  | _, _, .lst (ds := ds) h1 h2 => .lst (keepD_l e h1) (dpAll_keepD e ds _ h2)
  | _, _, .tup (ds := ds) h1 h2 => .tup (keepD_t e h1) (dpAll_keepD e ds _ h2)
theorem dpAll_keepD {H H' : Hp} (e : KeepD H H') : ∀ (ds : List PyData) (vs : List V), DpAll K H vs ds → DpAll K H' vs ds
  | _, _, .nil => .nil
  | d :: ds, _, .cons h1 h2 => .cons (dp_keepD e d _ h1) (dpAll_keepD e ds _ h2)
end
theorem dky_V {v : V} : Dky (dV v) := fun _ _ _ _ h => h
theorem dky_D {x : PyData} : Dky (dD K x) := fun v H H' e h => dp_keepD e _ _ h
theorem AllIs.keepD {dl : List DP} {vs : List V} {H H' : Hp} (e : KeepD H H') (hs : ∀ d ∈ dl, Dky d) (h : AllIs dl vs H) : AllIs dl vs H' := by
  induction h with
  | nil => exact .nil
  | cons a _ ih => exact .cons (hs _ List.mem_cons_self _ _ _ e a) (ih e fun d hd => hs d (List.mem_cons_of_mem _ hd))
theorem dky_tup (h : ∀ d ∈ dl, Dky d) : Dky (dTup K dl) := fun v H H' e q => by
  obtain ⟨a, vs, h1, h2, h3⟩ := q
  exact ⟨a, vs, h1, keepD_t e h2, h3.keepD e h⟩
theorem dky_lst (h : ∀ d ∈ dl, Dky d) : Dky (dLst K dl) := fun v H H' e q => by
  obtain ⟨a, vs, h1, h2, h3⟩ := q
  exact ⟨a, vs, h1, keepD_l e h2, h3.keepD e h⟩
theorem LotIs.keepD {H H' : Hp} (e : KeepD H H') {kvs : List (Key × V)} {t : Tm} (h : LotIs K H kvs t) : LotIs K H' kvs t := Paired.mapP h fun _ _ q => ⟨q.1, dp_keepD e _ _ q.2⟩
/-- the slots while the lot in slot il is read through -/
structure LkOk (K : PySem.W.Frag) (il : Nat) (tm : Tm) (ds dsR : List (Option DP)) : Prop where
  len : dsR.length = ds.length
  at' : ∀ (j : Nat) (d : DP), dsR[j]? = some (some d) → (j = il ∧ d = dLotR K tm) ∨ (ds[j]? = some (some d) ∧ Dky d)
/-- behind the lot's own slot -/
structure LkB (ds dsR : List (Option DP)) : Prop where
  len : dsR.length = ds.length
  at' : ∀ (j : Nat) (d : DP), dsR[j]? = some (some d) → ds[j]? = some (some d) ∧ Dky d
theorem lkB_nil : LkB [] [] := ⟨rfl, fun j d h => by simp at h⟩
theorem lkB_none {d : Option DP} {a b : List (Option DP)} (h : LkB a b) : LkB (d :: a) (none :: b) := ⟨by simp [h.len], fun j d' hd' => by
  cases j with
  | zero => cases hd'
  | succ j => exact h.at' j d' (by simpa using hd')⟩
theorem lkB_some {d : DP} {a b : List (Option DP)} (hd : Dky d) (h : LkB a b) : LkB (some d :: a) (some d :: b) := ⟨by simp [h.len], fun j d' hd' => by
  cases j with
  | zero =>
    have e := Option.some.inj (Option.some.inj hd')
    subst e
    exact ⟨rfl, hd⟩
  | succ j => exact h.at' j d' (by simpa using hd')⟩
theorem lkOk_lot {tm : Tm} {d0 : Option DP} {a b : List (Option DP)} (h : LkB a b) : LkOk K 0 tm (d0 :: a) (some (dLotR K tm) :: b) := ⟨by simp [h.len], fun j d hd => by
  cases j with
  | zero => exact .inl ⟨rfl, (Option.some.inj (Option.some.inj hd)).symm⟩
  | succ j => exact .inr (h.at' j d (by simpa using hd))⟩
theorem lkOk_keep {il : Nat} {tm : Tm} {d : DP} {a b : List (Option DP)} (hd : Dky d) (h : LkOk K il tm a b) : LkOk K (il + 1) tm (some d :: a) (some d :: b) := ⟨by simp [h.len], fun j d' hd' => by
  cases j with
  | zero =>
    have e := Option.some.inj (Option.some.inj hd')
    subst e
    exact .inr ⟨rfl, hd⟩
  | succ j =>
    rcases h.at' j d' (by simpa using hd') with ⟨z1, z2⟩ | z
    · exact .inl ⟨by omega, z2⟩
    · exact .inr ⟨by simpa using z.1, z.2⟩⟩
theorem lkOk_drop {il : Nat} {tm : Tm} {d : Option DP} {a b : List (Option DP)} (h : LkOk K il tm a b) : LkOk K (il + 1) tm (d :: a) (none :: b) := ⟨by simp [h.len], fun j d' hd' => by
  cases j with
  | zero => cases hd'
  | succ j =>
    rcases h.at' j d' (by simpa using hd') with ⟨z1, z2⟩ | z
    · exact .inl ⟨by omega, z2⟩
    · exact .inr ⟨by simpa using z.1, z.2⟩⟩
theorem frz_keepD {H : Hp} {d : Addr} {kvs : List (Key × V)} {od : Obj} (h : H d = some (.dK kvs)) : KeepD H (upd H d (.frz od (.dK kvs))) := fun b o e n1 n2 => by
  by_cases z : b = d
  · subst z
    rw [h] at e
    exact absurd (Option.some.inj e).symm (n1 kvs)
  · rw [upd_ne z]
    exact e
theorem unf_keepD {H : Hp} {d : Addr} {kvs : List (Key × V)} {od : Obj} (h : H d = some (.frz od (.dK kvs))) : KeepD H (upd H d (.dK kvs)) := fun b o e n1 n2 => by
  by_cases z : b = d
  · subst z
    rw [h] at e
    exact absurd (Option.some.inj e).symm (n2 od kvs)
  · rw [upd_ne z]
    exact e
theorem getD_map {α β : Type} [Inhabited α] (xs : List α) (f : α → β) : ((List.range xs.length).map fun j => f (xs.getD j default)) = xs.map f := by
  apply List.ext_getElem
  · simp
  · intro i h1 h2
    have : i < xs.length := by simpa using h1
    simp [List.getElem?_eq_getElem this]
theorem getD_filter {α β : Type} [Inhabited α] (p : α → Bool) (f : α → β) : ∀ xs : List α, (((List.range xs.length).filter fun j => p (xs.getD j default)).map fun j => f (xs.getD j default)) = (xs.filter p).map f := fun xs => by
  have h1 : ((List.range xs.length).filter fun j => p (xs.getD j default)).map (fun j => xs.getD j default) = xs.filter p := by
    have h2 := getD_map xs (id : α → α)
    have h3 : (List.range xs.length).map (fun j => xs.getD j default) = xs := by
      have := getD_map xs (id : α → α)
      simpa using this
    conv => rhs; rw [← h3]
    rw [List.filter_map]
    rfl
  rw [← h1, List.map_map]
  rfl
/-- [e for k in a lot if ..] -/
theorem ed_keys {il i : Nat} {tm : Tm} {vs : List Nat} {p : Int × Rat → Bool} {f : Int × Rat → DP} {dsR : List (Option DP)} (hil : ds[il]? = some (some (dLotT K tm))) (lk : LkOk K il tm ds dsR) (hn : tm.length ≤ 1000) (hi' : i ∈ vs)
    (ht : ∀ x ∈ tm, EvB tt ((wipeD dsR vs).set i (some (dV (.int x.1)))) (p x)) (he : ∀ x ∈ tm, p x = true → EvD te ((wipeD dsR vs).set i (some (dV (.int x.1)))) (f x))
    (hs : ∀ x ∈ tm, p x = true → (f x).Stiff ∧ Dky (f x)) : EvD (tLockE (tLc (iKeys (tVar il)) (gName i) tt te vs)) ds (dLst K ((tm.filter p).map f)) := fun σ H s Q q => by
  obtain ⟨v, hv, d, kvs, rfl, hd, hk⟩ := s.at' il _ hil
  refine ⟨d, .dK kvs, hd, trivial, fun od => ?_⟩
  have kd := frz_keepD (od := od) hd
  have sR : Sl σ dsR (upd H d (.frz od (.dK kvs))) := ⟨by rw [s.len, lk.len], fun j dd hj => by
    rcases lk.at' j dd hj with ⟨rfl, rfl⟩ | ⟨h1, h2⟩
    · exact ⟨_, hv, d, kvs, rfl, .inr ⟨od, upd_same⟩, hk.keepD kd⟩
    · obtain ⟨w0, w1, w2⟩ := s.at' j dd h1
      exact ⟨w0, w1, h2 _ _ _ kd w2⟩⟩
  refine ⟨.ref d, hv, d, od, rfl, .inl ⟨kvs, upd_same, fun D hD => ?_⟩⟩
  have hl : kvs.length = tm.length := hk.length
  have hget : ∀ j, j < tm.length → ∃ h : j < tm.length, tm.getD j default = tm[j] ∧ tm[j] ∈ tm := fun j hj => ⟨hj, by rw [List.getD_eq_getElem?_getD, List.getElem?_eq_getElem hj]; rfl, List.getElem_mem hj⟩
  have gmem : ∀ j, j < tm.length → tm.getD j default ∈ tm := fun j hj => by
    obtain ⟨_, e, h⟩ := hget j hj
    rw [e]
    exact h
  refine lc_gen (walk_keys (d := d) (o := od) (kvs := kvs)) (dsj := fun j => (wipeD dsR vs).set i (some (dV (.int (tm.getD j default).1)))) (f := fun j => f (tm.getD j default)) (p := fun j => p (tm.getD j default)) hD (by omega) (fun H2 s2 => s2 _ _ upd_same) (fun j x H2 H3 hj s2 y => ?_) (fun j hj => ht _ (gmem j (by omega))) (fun j hj hp => he _ (gmem j (by omega)) hp) (fun j hj hp => (hs _ (gmem j (by omega)) hp).1) (fun H2 acc s2 hDa ha => ?_)
  · obtain ⟨rfl, k, w0, hx, rfl⟩ := y
    refine ⟨Same.refl _, fun Kk hkk => hkk _ (wipe_idem_set hi') ?_⟩
    have hj' : j < tm.length := by omega
    have ek : k = Sum.inl (tm.getD j default).1 := by
      have hgen : ∀ {kvs : List (Key × V)} {tm : Tm} {j : Nat} {k : Key} {w0 : V}, Paired (fun (kv : Key × V) (x : Int × Rat) => kv.1 = Sum.inl x.1 ∧ Dp K H kv.2 (ratD x.2)) kvs tm → kvs[j]? = some (k, w0) → k = Sum.inl (tm.getD j default).1 := by
        intro kvs tm j k w0 hp
        induction hp generalizing j with
        | nil => intro h; simp at h
        | @cons kv x kvs tm a _ ih =>
          intro h
          cases j with
          | zero =>
            have h : kv = (k, w0) := Option.some.inj h
            have := a.1
            rw [h] at this
            exact this
          | succ j =>
            have := ih (j := j) (by simpa using h)
            simpa using this
      exact hgen hk hx
    subst ek
    exact ((sR.mono s2).wipe vs).set i rfl
  · rw [hl] at ha
    have ha : AllIs ((tm.filter p).map f) acc H2 := by
      rw [← getD_filter]
      exact ha
    have hfz : H2 d = some (.frz od (.dK kvs)) := s2 _ _ upd_same
    refine ⟨hfz, q (.ref D) _ (fun b o e => ?_) ⟨D, acc, rfl, SqL.of ?_, ha.keepD (unf_keepD hfz) fun dd hdd => ?_⟩⟩
    · by_cases z : b = d
      · subst z
        rw [hd] at e
        have e := Option.some.inj e
        subst e
        exact upd_same
      · rw [upd_ne z]
        exact s2 _ _ (by rw [upd_ne z]; exact e)
    · have : D ≠ d := fun z => by
        subst z
        rw [upd_same] at hD
        cases hD
      rw [upd_ne this]
      exact hDa
    · obtain ⟨x, hx, rfl⟩ := List.mem_map.mp hdd
      have hx := List.mem_filter.mp hx
      exact (hs x hx.1 hx.2).2
/-- an entry's pair -/
def itemD (K : PySem.W.Frag) (x : Int × Rat) : DP := dTup K [dV (.int x.1), dD K (ratD x.2)]
theorem item_stiff {x : Int × Rat} : (itemD K x).Stiff := stiff_tup fun d hd => by
  rcases List.mem_cons.mp hd with z | z
  · rw [z]
    exact stiff_V
  · rw [List.mem_singleton.mp z]
    exact stiff_rat
theorem item_dky {x : Int × Rat} : Dky (itemD K x) := dky_tup fun d hd => by
  rcases List.mem_cons.mp hd with z | z
  · rw [z]
    exact dky_V
  · rw [List.mem_singleton.mp z]
    exact dky_D
theorem mergeK_nodup : ∀ {kvs acc : List (Key × V)}, ((acc ++ kvs).map (·.1)).Nodup → mergeK acc kvs = acc ++ kvs
  | [], acc, _ => by
    show acc = acc ++ []
    rw [List.append_nil]
  | kv :: kvs, acc, h => by
    have hp : putK acc kv.1 kv.2 = acc ++ [kv] := by
      unfold putK
      rw [if_neg]
      intro z
      obtain ⟨x, hx, hxe⟩ := List.any_eq_true.mp z
      have hxe := of_decide_eq_true hxe
      rw [List.map_append, List.nodup_append] at h
      exact h.2.2 x.1 (List.mem_map_of_mem hx) kv.1 (List.mem_map_of_mem List.mem_cons_self) hxe
    show mergeK (putK acc kv.1 kv.2) kvs = acc ++ kv :: kvs
    rw [hp, mergeK_nodup (by rw [List.append_assoc]; exact h), List.append_assoc]
    rfl
theorem rc_dict {tm : Tm} (hk : KeysOk tm) : RcP (fun xs H Q => ∃ (a : Addr) (ps : List Addr) (kvs : List (Key × V)), xs = [.ref a] ∧ SqL K H a (ps.map V.ref) ∧ Paired (fun p kv => SqT K H p [kV kv.1, kv.2]) ps kvs ∧ ∀ p, H p = none → Q (.ref p) (upd H p (.dK (mergeK [] kvs)))) [dLst K (tm.map (itemD K))] (dLotT K tm) := fun vs H h Q q => by
  cases h with
  | cons h1 h2 =>
    cases h2
    obtain ⟨a, us, rfl, hS, ha⟩ := h1
    have : ∃ (ps : List Addr) (kvs : List (Key × V)), us = ps.map V.ref ∧ Paired (fun p kv => SqT K H p [kV kv.1, kv.2]) ps kvs ∧ LotIs K H kvs tm := by
      clear hS hk q
      induction tm generalizing us with
      | nil => cases ha; exact ⟨[], [], rfl, .nil, .nil⟩
      | cons x tm ih =>
        cases ha with
        | cons a1 a2 =>
          obtain ⟨ps, kvs, e1, e2, e3⟩ := ih _ a2
          obtain ⟨b, ws, rfl, hb, hw⟩ := a1
          cases hw with
          | @cons _ _ w1 _ _ b1 r1 => cases r1 with
            | @cons _ _ w2 _ _ b2 r2 =>
              cases r2
              cases b1
              exact ⟨b :: ps, (Sum.inl x.1, w2) :: kvs, by rw [e1]; rfl, .cons hb e2, .cons ⟨rfl, b2⟩ e3⟩
    obtain ⟨ps, kvs, rfl, e2, e3⟩ := this
    refine ⟨a, ps, kvs, rfl, hS, e2, fun p hp => q _ _ (same_new hp) ⟨p, kvs, rfl, ?_, e3.mono (same_new hp)⟩⟩
    have nd : (([] ++ kvs).map fun kv : Key × V => kv.1).Nodup := by
      rw [List.nil_append]
      have : kvs.map (fun kv => kv.1) = tm.map fun x : Int × Rat => (Sum.inl x.1 : Key) := by
        clear e2 hS ha hk q
        unfold LotIs at e3
        induction e3 with
        | nil => rfl
        | cons a _ ih => rw [List.map_cons, List.map_cons, a.1, ih]
      rw [this]
      unfold KeysOk at hk
      rw [List.nodup_iff_pairwise_ne] at hk ⊢
      rw [List.pairwise_map] at hk ⊢
      exact hk.imp fun h z => h (Sum.inl.inj z)
    rw [mergeK_nodup nd, List.nil_append]
    exact upd_same
/-- {} -/
theorem ed_noLot : EvD tDNewK ds (dLotT K []) := fun σ H s Q q p hp => q _ _ (same_new hp) ⟨p, [], rfl, upd_same, .nil⟩
theorem lot_ok_nil : LotOk [] 0 := ⟨List.nodup_nil, fun _ h => (nomatch h), rfl⟩
theorem imp_lot {tm : Tm} {p : L} (h : LotOk tm p) : DP.imp (dLotT K tm) (dLot K p) := fun v H q => ⟨tm, h, q⟩
theorem ed_no : EvD tDNewK ds (dLot K 0) := ed_noLot.imp (imp_lot lot_ok_nil)
theorem op_eqLot {p p' : L} : OpP (rEqK K) (dLot K p) (dLot K p') (dV (.bl (eqL p p'))) := fun x y H hx hy Q q => ⟨p, p', hx, hy, q _ H (Same.refl H) rfl⟩
theorem op_neLot {p p' : L} : OpP (rNeK K) (dLot K p) (dLot K p') (dV (.bl (!eqL p p'))) := fun x y H hx hy Q q => ⟨p, p', hx, hy, q _ H (Same.refl H) rfl⟩
/-- a lot's slot opened -/
theorem b_open {i : Nat} {α : Type} {S : α → Prop} {D : α → DP} (h : ds[i]? = some (some (dEx S D))) (k : ∀ x, S x → BdD u (ds.set i (some (D x))) d) : BdD u ds d := fun Dn σ H s q => by
  obtain ⟨v, h1, x, hx, h2⟩ := s.at' i _ h
  refine k x hx Dn σ H ?_ q
  have := s.set i (v := v) h2
  have e : σ.set i (some v) = σ := by
    apply List.ext_getElem?
    intro j
    rw [List.getElem?_set]
    by_cases z : i = j
    · subst z
      rw [if_pos rfl, if_pos (List.getElem?_eq_some_iff.mp h1).1, h1]
    · rw [if_neg z]
  rw [e] at this
  exact this
end
end K65

/-! K65LB: the law's numbers, simple things of lots -/
namespace K65
open PySem PySem.Spec PyProof.Rows L2
/-! ### plain -/
theorem lotOk_of {t : Tm} {p : L} (hk : KeysOk t) (h1 : ∀ x ∈ t, x.2 ≠ 0 ∧ p.co x.1 = x.2) (h2 : ∀ k, p.co k ≠ 0 → ∃ x ∈ t, x.1 = k) : LotOk t p := ⟨hk, fun x hx => (h1 x hx).1, L.eq_of_co fun k => by
  rw [co_lk hk]
  cases e : lk t k with
  | none =>
    show (0 : Rat) = p.co k
    apply Classical.byContradiction
    intro z
    obtain ⟨x, hx, rfl⟩ := h2 k fun y => z y.symm
    rw [lk_of_mem hk hx] at e
    cases e
  | some q => exact (h1 _ (lk_mem e)).2.symm⟩
theorem keys_map {t : Tm} {fk : Int → Int} {g : Int × Rat → Rat} (hk : KeysOk t) (hi : ∀ x ∈ t, ∀ y ∈ t, fk x.1 = fk y.1 → x.1 = y.1) : KeysOk (t.map fun x => (fk x.1, g x)) := by
  unfold KeysOk at *
  rw [List.map_map]
  rw [List.nodup_iff_pairwise_ne, List.pairwise_map] at hk ⊢
  exact List.Pairwise.imp_of_mem (fun {x y} hx hy h z => h (hi x hx y hy z)) hk
theorem keys_filter {t : Tm} (p : Int × Rat → Bool) (hk : KeysOk t) : KeysOk (t.filter p) := by
  unfold KeysOk at *
  exact hk.sublist (List.Sublist.map _ List.filter_sublist)
theorem lot_len {t : Tm} {p : L} (h : LotOk t p) {a : Int} (w : W a p) (ha : 0 ≤ a) : (t.length : Int) ≤ 2 * a + 1 := by
  -- the keys stand in a range
  have key : ∀ (n : Nat) (lo : Int) (l : List Int), l.Nodup → (∀ x ∈ l, lo ≤ x ∧ x < lo + n) → l.length ≤ n := by
    intro n
    induction n with
    | zero =>
      intro lo l nd h
      cases l with
      | nil => exact Nat.le_refl _
      | cons a l =>
        have := h a List.mem_cons_self
        omega
    | succ n ih =>
      intro lo l nd h
      by_cases hm : (lo + n) ∈ l
      · have := ih lo (l.erase (lo + n)) (nd.erase _) fun x hx => by
          have hx' := List.mem_of_mem_erase hx
          have hne : x ≠ lo + n := fun z => by
            rw [z] at hx
            exact (List.Nodup.not_mem_erase nd) hx
          have := h x hx'
          omega
        rw [List.length_erase_of_mem hm] at this
        omega
      · have := ih lo l nd fun x hx => by
          have hne : x ≠ lo + n := fun z => hm (z ▸ hx)
          have := h x hx
          omega
        omega
  have := key (2 * a + 1).toNat (-a) (t.map fun x : Int × Rat => x.1) h.keys fun x hx => by
    obtain ⟨y, hy, rfl⟩ := List.mem_map.mp hx
    have hy2 := (h.mem (k := y.1) (q := y.2)).mp hy
    have := w y.1 (by rw [hy2.1]; exact hy2.2)
    omega
  rw [List.length_map] at this
  omega
theorem co_ofT_filter {t : Tm} (hk : KeysOk t) (k : Int) : (ofT (t.filter fun x => decide (x.2 ≠ 0))).co k = (ofT t).co k := by
  rw [co_lk (keys_filter _ hk), co_lk hk]
  cases e : lk t k with
  | none =>
    have : lk (t.filter fun x => decide (x.2 ≠ 0)) k = none := by
      cases z : lk (t.filter fun x => decide (x.2 ≠ 0)) k with
      | none => rfl
      | some q =>
        have := List.mem_filter.mp (lk_mem z)
        have := lk_of_mem hk this.1
        simp only at this
        rw [this] at e
        cases e
    rw [this]
  | some q =>
    by_cases z : q = 0
    · have : lk (t.filter fun x => decide (x.2 ≠ 0)) k = none := by
        cases y : lk (t.filter fun x => decide (x.2 ≠ 0)) k with
        | none => rfl
        | some q' =>
          have m := List.mem_filter.mp (lk_mem y)
          have := lk_of_mem hk m.1
          simp only at this
          rw [this] at e
          have e := Option.some.inj e
          have := of_decide_eq_true m.2
          exact absurd (by simp only; rw [e, z]) this
      rw [this, z]
      rfl
    · have := lk_of_mem (keys_filter (fun x => decide (x.2 ≠ 0)) hk) (x := (k, q)) (List.mem_filter.mpr ⟨lk_mem e, decide_eq_true z⟩)
      simp only at this
      rw [this]
theorem lot_clear {t : Tm} (hk : KeysOk t) : LotOk (t.filter fun x => decide (x.2 ≠ 0)) (ofT t) := ⟨keys_filter _ hk, fun x hx => of_decide_eq_true (List.mem_filter.mp hx).2, L.eq_of_co fun k => co_ofT_filter hk k⟩
theorem ofT_scale {t : Tm} (c : Rat) : ofT (t.map fun x => (x.1, x.2 * c)) = L.scale c (ofT t) := by
  induction t with
  | nil => exact L.eq_of_co fun k => by rw [co_scale]; show (0 : Rat) = c * 0; grind
  | cons x t ih =>
    refine L.eq_of_co fun k => ?_
    rw [List.map_cons, co_ofT_cons, co_scale, co_ofT_cons, ih, co_scale]
    split <;> grind
theorem dec_num' {x : Rat} : (!decide (V.int x.num = V.int 0)) = decide (x ≠ 0) := by
  rw [dec_num]
  by_cases e : x = 0
  · rw [decide_eq_true e, decide_eq_false (fun h => h e)]
    rfl
  · rw [decide_eq_false e, decide_eq_true e]
    rfl
/-- entries, some of them nought -/
def dRaw (K : PySem.W.Frag) (p : L) : DP := dEx (fun t : Tm => KeysOk t ∧ t.length ≤ 1000 ∧ ofT t = p) (dLotT K)
section
variable {P : Program} {w : World} {mg : Str → Option Value} {base : Heap} {K : PySem.W.Frag} {ds ds' ds1 : List (Option DP)} {te tl th : TE} {ta : TA} {tt : TT} {t u : TS} {d d1 d2 : DP} {dl : List DP}
theorem ed_item {tk tv : TE} {k : Int} {q : Rat} (h1 : EvD tk ds (dV (.int k))) (h2 : EvD tv ds (dD K (ratD q))) : EvD (tTup (tCons tk (tCons tv tNil))) ds (itemD K (k, q)) := ed_tupP (ea_cons h1 (ea_cons h2 ea_nil)) (by simp)
/-- dict([(.., ..) for k in a lot if ..]) -/
theorem ed_dictc {il i : Nat} {tm : Tm} {vs : List Nat} {p : Int × Rat → Bool} {fk : Int × Rat → Int} {fq : Int × Rat → Rat} {dsR : List (Option DP)} {tk tv : TE} (hil : ds[il]? = some (some (dLotT K tm))) (lk : LkOk K il tm ds dsR) (hn : tm.length ≤ 1000) (hi' : i ∈ vs)
    (ht : ∀ x ∈ tm, EvB tt ((wipeD dsR vs).set i (some (dV (.int x.1)))) (p x)) (hk : ∀ x ∈ tm, p x = true → EvD tk ((wipeD dsR vs).set i (some (dV (.int x.1)))) (dV (.int (fk x)))) (he : ∀ x ∈ tm, p x = true → EvD tv ((wipeD dsR vs).set i (some (dV (.int x.1)))) (dD K (ratD (fq x))))
    (nd : KeysOk ((tm.filter p).map fun x => (fk x, fq x))) :
    EvD (tCB (fun xs H Q => ∃ (a : Addr) (ps : List Addr) (kvs : List (Key × V)), xs = [.ref a] ∧ SqL K H a (ps.map V.ref) ∧ Paired (fun p kv => SqT K H p [kV kv.1, kv.2]) ps kvs ∧ ∀ p, H p = none → Q (.ref p) (upd H p (.dK (mergeK [] kvs)))) (tCons (tLockE (tLc (iKeys (tVar il)) (gName i) tt (tTup (tCons tk (tCons tv tNil))) vs)) tNil)) ds (dLotT K ((tm.filter p).map fun x => (fk x, fq x))) := by
  refine ed_cb (rc_dict nd) (ea_cons ?_ ea_nil)
  rw [List.map_map]
  exact ed_keys hil lk hn hi' ht (fun x hx hp => ed_item (hk x hx hp) (he x hx hp)) (fun x _ _ => ⟨item_stiff, item_dky⟩)
theorem filter_true {α : Type} (xs : List α) : xs.filter (fun _ => true) = xs := List.filter_eq_self.mpr fun _ _ => rfl
theorem op_mod2 {i j : Int} (hj : j ≠ 0) : OpP (rI (fun _ j => j ≠ 0) fun i j => .int (i.fmod j)) (dV (.int i)) (dV (.int j)) (dV (.int (i.fmod j))) := op_I (g := fun i j => .int (i.fmod j)) hj
variable (F : Facts K mg)
include F
theorem c__law_common : C8.Cal P w K mg base 1 "_law_common" (spF (fun _ : Int × Int => True) (fun q => [dV (.int q.1), dV (.int q.2)]) (fun q => dV (.int ((Nat.gcd q.1.natAbs q.2.natAbs : Nat) : Int)))) [] := by
  have mabs := F.m_abs
  have mint := F.m_int
  refine fn_ok F.f__law_common (N := ["_law_one", "_law_two_here"]) (C8.fnScope_by (by decide +kernel)) (fun _ => rfl) fun sc cdv A outer s H E f hr => ⟨_, (pss_cons (ps_par (i := 0) (j := 1) rfl sc.nd rfl rfl (by decide) rfl rfl (pa_cons (pe_callB call_abs (by rfl) mabs (by decide +kernel) (pa_cons (pv 0) pa_nil)) (pa_cons (pe_callB call_abs (by rfl) mabs (by decide +kernel) (pa_cons (pv 1) pa_nil)) pa_nil)) (by rfl)) (pss_cons (ps_while PassesOwn.never (pt_cmpR op_gt (pv 1) pe_int (nomark _)) (pss_one (ps_par (i := 0) (j := 1) rfl sc.nd rfl rfl (by decide) rfl rfl (pa_cons (pv 1) (pa_cons (pe_op op_modN (pe_callTy call_int1 (by rfl) mint (by decide +kernel) (pa_cons (pv 0) pa_nil)) (pv 1)) pa_nil)) (by rfl)))) (pss_one (ps_ret (pv 0))))), fun q hq => ?_⟩
  refine b_st (st_par (ea_cons (ed_cb rc_abs (ea_cons (ed_var rfl) ea_nil)) (ea_cons (ed_cb rc_abs (ea_cons (ed_var rfl) ea_nil)) ea_nil))) ?_
  refine b_while (α := Nat × Nat) (I := fun a => [some (dV (.int (a.1 : Int))), some (dV (.int (a.2 : Int)))]) (ok := fun a => Nat.gcd a.1 a.2 = Nat.gcd q.1.natAbs q.2.natAbs) (fun a => a.2) (fun a => decide ((0 : Int) < (a.2 : Int))) (q.1.natAbs, q.2.natAbs) rfl rfl (fun a ha => eb_test (ed_op op_I0 (ed_var rfl) ed_v)) (fun a ha hc => ?_) (fun a ha hc => ?_)
  · have hc := of_decide_eq_true hc
    refine ⟨(a.2, a.1 % a.2), ?_, Nat.mod_lt _ (by omega), st_par (ea_cons (ed_var rfl) (ea_cons (EvD.to (ed_op (op_mod2 (by omega)) (ed_cb rc_int (ea_cons (ed_var rfl) ea_nil)) (ed_var rfl)) ?_) ea_nil))⟩
    · show Nat.gcd a.2 (a.1 % a.2) = _
      rw [← ha, Nat.gcd_comm a.2, ← Nat.gcd_rec, Nat.gcd_comm]
    · rw [Int.fmod_eq_emod_of_nonneg _ (by omega)]
      rfl
  · have hc := of_decide_eq_false hc
    have e : a.2 = 0 := by omega
    have e1 : Nat.gcd a.1 a.2 = a.1 := by rw [e]; exact Nat.gcd_zero_right _
    replace ha : Nat.gcd a.1 a.2 = Nat.gcd q.1.natAbs q.2.natAbs := ha
    show BdD _ _ (dV (.int ((Nat.gcd q.1.natAbs q.2.natAbs : Nat) : Int)))
    rw [← ha, e1]
    exact b_ret (ed_var rfl)
theorem c__law_ratio : C8.Cal P w K mg base 2 "_law_ratio" (spF (fun q : Int × Int => q.2 ≠ 0 ∧ q.1.natAbs < 2 ^ 13500 ∧ q.2.natAbs < 2 ^ 13500) (fun q => [dV (.int q.1), dV (.int q.2)]) (fun q => dD K (ratD (Rat.divInt q.1 q.2)))) [] := by
  have c_law_common := c__law_common (P := P) (w := w) (base := base) F
  refine fn_ok F.f__law_ratio (N := ["_law_n", "_law_m", "_law_by"]) (C8.fnScope_by (by decide +kernel)) (fun _ => rfl) fun sc cdv A outer s H E f hr => ⟨_, (pss_cons (ps_set (i := 2) sc.nd rfl (Or.inl rfl) (C8.pe_c c_law_common hr (by decide) (by rfl) (pa_cons (pv 0) (pa_cons (pv 1) pa_nil)))) (pss_cons (ps_set (i := 2) sc.nd rfl (Or.inl rfl) (pe_ifExp (pt_cmpR op_gt (pv 1) pe_int (nomark _)) (pv 2) (pe_op op_sub pe_int (pv 2)))) (pss_one (ps_ret (pe_tup (pa_cons (pe_op op_fdivX (pv 0) (pv 2)) (pa_cons (pe_op op_fdivX (pv 1) (pv 2)) pa_nil))))))), fun q hq => ?_⟩
  obtain ⟨h0, h1, h2⟩ := hq
  have hg := natAbs_gcd_pos (a := q.1) h0
  refine b_asg (ed_call (callP q trivial) (ea_cons (ed_var rfl) (ea_cons (ed_var rfl) ea_nil))) ?_
  refine b_asg (d1 := dV (.int (if q.2 > 0 then ((Nat.gcd q.1.natAbs q.2.natAbs : Nat) : Int) else -((Nat.gcd q.1.natAbs q.2.natAbs : Nat) : Int)))) (ed_if (eb_test (ed_op op_I0 (ed_var rfl) ed_v)) (fun e => ?_) (fun e => ?_)) ?_
  · rw [if_pos (of_decide_eq_true e)]
    exact ed_var rfl
  · rw [if_neg (of_decide_eq_false e)]
    exact EvD.to (ed_op op_I0 ed_v (ed_var rfl)) (by congr 1; omega)
  · rw [ratD_divInt h0]
    have hp : (if q.2 > 0 then ((Nat.gcd q.1.natAbs q.2.natAbs : Nat) : Int) else -((Nat.gcd q.1.natAbs q.2.natAbs : Nat) : Int)) ≠ 0 := by split <;> omega
    generalize (if q.2 > 0 then ((Nat.gcd q.1.natAbs q.2.natAbs : Nat) : Int) else -((Nat.gcd q.1.natAbs q.2.natAbs : Nat) : Int)) = part at *
    exact b_ret (ed_tup (ea_cons ((ed_op (op_I (cdiv_of hp h1)) (ed_var rfl) (ed_var rfl)).imp imp_int') (ea_cons ((ed_op (op_I (cdiv_of hp h2)) (ed_var rfl) (ed_var rfl)).imp imp_int') ea_nil)) (by simp))
theorem dec_den {a : Rat} : decide (V.int (a.den : Int) = V.int 1) = decide (a.den = 1) := by
  by_cases e : a.den = 1
  · rw [e]
    rfl
  · rw [decide_eq_false e, decide_eq_false]
    intro z
    have := V.int.inj z
    omega
theorem c__law_sum : C8.Cal P w K mg base 3 "_law_sum" (spF (fun q : Rat × Rat => Sm q.1 ∧ Sm q.2) (fun q => [dD K (ratD q.1), dD K (ratD q.2)]) (fun q => dD K (ratD (q.1 + q.2)))) [] := by
  have c_law_ratio := c__law_ratio (P := P) (w := w) (base := base) F
  refine fn_ok F.f__law_sum (N := ["_law_a", "_law_b"]) (C8.fnScope_by (by decide +kernel)) (fun _ => rfl) fun sc cdv A outer s H E f hr => ⟨_, (pss_cons (ps_if (PW.pt (pw_and (pt_cmpR op_eq (pe_ix (r := rIxT K) ix_tup (pv 0) pe_int (fun _ _ => rfl)) pe_int (nomark _)) (pw_and1 (pt_cmpR op_eq (pe_ix (r := rIxT K) ix_tup (pv 1) pe_int (fun _ _ => rfl)) pe_int (nomark _))))) (pss_one (ps_ret (pe_tup (pa_cons (pe_op op_add (pe_ix (r := rIxT K) ix_tup (pv 0) pe_int (fun _ _ => rfl)) (pe_ix (r := rIxT K) ix_tup (pv 1) pe_int (fun _ _ => rfl))) (pa_cons pe_int pa_nil))))) pss_nil) (pss_one (ps_ret (C8.pe_c c_law_ratio hr (by decide) (by rfl) (pa_cons (pe_op op_add (pe_op op_mulW (pe_ix (r := rIxT K) ix_tup (pv 0) pe_int (fun _ _ => rfl)) (pe_ix (r := rIxT K) ix_tup (pv 1) pe_int (fun _ _ => rfl))) (pe_op op_mulW (pe_ix (r := rIxT K) ix_tup (pv 1) pe_int (fun _ _ => rfl)) (pe_ix (r := rIxT K) ix_tup (pv 0) pe_int (fun _ _ => rfl)))) (pa_cons (pe_op op_mulW (pe_ix (r := rIxT K) ix_tup (pv 0) pe_int (fun _ _ => rfl)) (pe_ix (r := rIxT K) ix_tup (pv 1) pe_int (fun _ _ => rfl))) pa_nil)))))), fun q hq => ?_⟩
  obtain ⟨⟨a1, a2⟩, ⟨b1, b2⟩⟩ := hq
  refine b_if (eb_and (eb_test (ed_op (op_eqV (by rfl)) (ed_den (ed_var rfl)) ed_v)) fun _ => eb_test (ed_op (op_eqV (by rfl)) (ed_den (ed_var rfl)) ed_v)) (fun e => ?_) (fun e => ?_)
  · rw [Bool.and_eq_true, dec_den F, dec_den F, decide_eq_true_eq, decide_eq_true_eq] at e
    rw [rat_one_sum e.1 e.2]
    exact b_ret (ed_tup (ea_cons ((ed_op op_I0 (ed_num (ed_var rfl)) (ed_num (ed_var rfl))).imp imp_int') (ea_cons (ed_v.imp imp_int') ea_nil)) (by simp))
  · have z1 := q.1.den_nz
    have z2 := q.2.den_nz
    have m1 := sm_mul (i := q.1.num) (j := q.2.den) a1 (by simpa using b2)
    have m2 := sm_mul (i := q.2.num) (j := q.1.den) b1 (by simpa using a2)
    have m3 := sm_mul (i := (q.1.den : Int)) (j := q.2.den) (by simpa using a2) (by simpa using b2)
    rw [← rat_add]
    refine b_ret (ed_call (callP (_, _) ⟨?_, ?_, ?_⟩) (ea_cons (ed_op op_I0 (ed_mul (ed_num (ed_var rfl)) (ed_den (ed_var rfl)) ?_ ?_) (ed_mul (ed_num (ed_var rfl)) (ed_den (ed_var rfl)) ?_ ?_)) (ea_cons (ed_mul (ed_den (ed_var rfl)) (ed_den (ed_var rfl)) ?_ ?_) ea_nil)))
    · exact Int.mul_ne_zero (by omega) (by omega)
    · exact lt13500 (Nat.le_trans (Int.natAbs_add_le _ _) (Nat.add_le_add m1 m2))
    · exact lt13500 (Nat.le_trans m3 (Nat.le_add_right _ _))
    all_goals first | exact le_lt13500 a1 | exact le_lt13500 b1 | exact le_lt13500 (by simpa using a2) | exact le_lt13500 (by simpa using b2)
theorem c__law_product : C8.Cal P w K mg base 3 "_law_product" (spF (fun q : Rat × Rat => Sm q.1 ∧ Sm q.2) (fun q => [dD K (ratD q.1), dD K (ratD q.2)]) (fun q => dD K (ratD (q.1 * q.2)))) [] := by
  have c_law_ratio := c__law_ratio (P := P) (w := w) (base := base) F
  refine fn_ok F.f__law_product (N := ["_law_a", "_law_b"]) (C8.fnScope_by (by decide +kernel)) (fun _ => rfl) fun sc cdv A outer s H E f hr => ⟨_, (pss_cons (ps_if (PW.pt (pw_and (pt_cmpR op_eq (pe_ix (r := rIxT K) ix_tup (pv 0) pe_int (fun _ _ => rfl)) pe_int (nomark _)) (pw_and1 (pt_cmpR op_eq (pe_ix (r := rIxT K) ix_tup (pv 1) pe_int (fun _ _ => rfl)) pe_int (nomark _))))) (pss_one (ps_ret (pe_tup (pa_cons (pe_op op_mulW (pe_ix (r := rIxT K) ix_tup (pv 0) pe_int (fun _ _ => rfl)) (pe_ix (r := rIxT K) ix_tup (pv 1) pe_int (fun _ _ => rfl))) (pa_cons pe_int pa_nil))))) pss_nil) (pss_one (ps_ret (C8.pe_c c_law_ratio hr (by decide) (by rfl) (pa_cons (pe_op op_mulW (pe_ix (r := rIxT K) ix_tup (pv 0) pe_int (fun _ _ => rfl)) (pe_ix (r := rIxT K) ix_tup (pv 1) pe_int (fun _ _ => rfl))) (pa_cons (pe_op op_mulW (pe_ix (r := rIxT K) ix_tup (pv 0) pe_int (fun _ _ => rfl)) (pe_ix (r := rIxT K) ix_tup (pv 1) pe_int (fun _ _ => rfl))) pa_nil)))))), fun q hq => ?_⟩
  obtain ⟨⟨a1, a2⟩, ⟨b1, b2⟩⟩ := hq
  refine b_if (eb_and (eb_test (ed_op (op_eqV (by rfl)) (ed_den (ed_var rfl)) ed_v)) fun _ => eb_test (ed_op (op_eqV (by rfl)) (ed_den (ed_var rfl)) ed_v)) (fun e => ?_) (fun e => ?_)
  · rw [Bool.and_eq_true, dec_den F, dec_den F, decide_eq_true_eq, decide_eq_true_eq] at e
    rw [rat_one_mul e.1 e.2]
    exact b_ret (ed_tup (ea_cons ((ed_mul (ed_num (ed_var rfl)) (ed_num (ed_var rfl)) (le_lt13500 a1) (le_lt13500 b1)).imp imp_int') (ea_cons (ed_v.imp imp_int') ea_nil)) (by simp))
  · have z1 := q.1.den_nz
    have z2 := q.2.den_nz
    have m1 := sm_mul (i := q.1.num) (j := q.2.num) a1 b1
    have m3 := sm_mul (i := (q.1.den : Int)) (j := q.2.den) (by simpa using a2) (by simpa using b2)
    rw [← rat_mul]
    refine b_ret (ed_call (callP (_, _) ⟨?_, ?_, ?_⟩) (ea_cons (ed_mul (ed_num (ed_var rfl)) (ed_num (ed_var rfl)) ?_ ?_) (ea_cons (ed_mul (ed_den (ed_var rfl)) (ed_den (ed_var rfl)) ?_ ?_) ea_nil)))
    · exact Int.mul_ne_zero (by omega) (by omega)
    · exact lt13500 (Nat.le_trans m1 (Nat.le_add_right _ _))
    · exact lt13500 (Nat.le_trans m3 (Nat.le_add_right _ _))
    all_goals first | exact le_lt13500 a1 | exact le_lt13500 b1 | exact le_lt13500 (by simpa using a2) | exact le_lt13500 (by simpa using b2)
theorem c__law_over : C8.Cal P w K mg base 3 "_law_over" (spF (fun q : Rat × Rat => Sm q.1 ∧ Sm q.2 ∧ q.2 ≠ 0) (fun q => [dD K (ratD q.1), dD K (ratD q.2)]) (fun q => dD K (ratD (q.1 / q.2)))) [] := by
  have c_law_ratio := c__law_ratio (P := P) (w := w) (base := base) F
  refine fn_ok F.f__law_over (N := ["_law_a", "_law_b"]) (C8.fnScope_by (by decide +kernel)) (fun _ => rfl) fun sc cdv A outer s H E f hr => ⟨_, (pss_one (ps_ret (C8.pe_c c_law_ratio hr (by decide) (by rfl) (pa_cons (pe_op op_mulW (pe_ix (r := rIxT K) ix_tup (pv 0) pe_int (fun _ _ => rfl)) (pe_ix (r := rIxT K) ix_tup (pv 1) pe_int (fun _ _ => rfl))) (pa_cons (pe_op op_mulW (pe_ix (r := rIxT K) ix_tup (pv 0) pe_int (fun _ _ => rfl)) (pe_ix (r := rIxT K) ix_tup (pv 1) pe_int (fun _ _ => rfl))) pa_nil))))), fun q hq => ?_⟩
  obtain ⟨⟨a1, a2⟩, ⟨b1, b2⟩, h0⟩ := hq
  have z1 := q.1.den_nz
  have z2 : q.2.num ≠ 0 := fun e => h0 (Rat.num_eq_zero.mp e)
  have m1 := sm_mul (i := q.1.num) (j := q.2.den) a1 (by simpa using b2)
  have m3 := sm_mul (i := (q.1.den : Int)) (j := q.2.num) (by simpa using a2) b1
  rw [← rat_div]
  refine b_ret (ed_call (callP (_, _) ⟨?_, ?_, ?_⟩) (ea_cons (ed_mul (ed_num (ed_var rfl)) (ed_den (ed_var rfl)) ?_ ?_) (ea_cons (ed_mul (ed_den (ed_var rfl)) (ed_num (ed_var rfl)) ?_ ?_) ea_nil)))
  · exact Int.mul_ne_zero (by omega) z2
  · exact lt13500 (Nat.le_trans m1 (Nat.le_add_right _ _))
  · exact lt13500 (Nat.le_trans m3 (Nat.le_add_right _ _))
  all_goals first | exact le_lt13500 a1 | exact le_lt13500 b1 | exact le_lt13500 (by simpa using a2) | exact le_lt13500 (by simpa using b2)
theorem c__law_cleared : C8.Cal P w K mg base 1 "_law_cleared" (spF (fun _ : L => True) (fun p => [dRaw K p]) (fun p => dLot K p)) [] := by
  have mdict := F.m_dict
  refine fn_ok F.f__law_cleared (N := ["_law_lot_here", "_law_k"]) (C8.fnScope_by (by decide +kernel)) (fun _ => rfl) fun sc cdv A outer s H E f hr => ⟨_, (pss_one (ps_ret (pe_callTy (call_dictP rfl) (by rfl) mdict (by decide +kernel) (pa_cons (pe_lock (pe_lc (own := [("_law_k", 1)]) rfl sc.nd (pi_keys (pv 0)) (blkOk_by (by change blkC ["_law_lot_here", "_law_k"] (C8.fnScope (topS 68)) _ _ = true; decide +kernel)) (fun _ _ _ _ _ => (pg_name (i := 1) sc.nd rfl (by first | exact Or.inl rfl | exact Or.inr rfl))) (fun _ _ _ _ _ => (pts_one (pt_cmpR op_ne (pe_ix (r := rIxT K) ix_tup (pe_dget (by have h := hr.un; show (A.deeper _).units + 1 < cLine; omega) (pv 0) (pv 1) (fun _ _ => rfl)) pe_int (fun _ _ => rfl)) pe_int (nomark _)))) (fun _ _ _ _ _ => (pe_tup (pa_cons (pv 1) (pa_cons (pe_dget (by have h := hr.un; show (A.deeper _).units + 1 < cLine; omega) (pv 0) (pv 1) (fun _ _ => rfl)) pa_nil)))))) pa_nil)))), fun q hq => ?_⟩
  refine b_open (i := 0) rfl fun tm htm => ?_
  obtain ⟨hk, hl, rfl⟩ := htm
  have res : ((tm.filter fun x => decide (x.2 ≠ 0)).map fun x => (x.1, x.2)) = tm.filter fun x => decide (x.2 ≠ 0) := List.map_id _
  refine b_ret (EvD.imp (ed_dictc (il := 0) (i := 1) (tm := tm) (p := fun x => decide (x.2 ≠ 0)) (fk := fun x => x.1) (fq := fun x => x.2) rfl (lkOk_lot (lkB_none lkB_nil)) hl (by simp) (fun x hx => ?_) (fun x hx _ => ed_var rfl) (fun x hx _ => ed_dget (ed_var rfl) (ed_var rfl) (lk_of_mem hk hx)) (by rw [res]; exact keys_filter _ hk)) ?_)
  · rw [← dec_num']
    exact eb_test (ed_op (op_neV (by rfl)) (ed_num (ed_dget (ed_var rfl) (ed_var rfl) (lk_of_mem hk hx))) ed_v)
  · rw [res]
    exact imp_lot (lot_clear hk)
end
end K65

/-! K65LC: lines and lots -/
namespace K65
open PySem PySem.Spec PyProof.Rows L2
/-! ### plain -/
theorem lot_range {p : L} {a : Int} {n : Nat} (h : In a (a + n) p) : LotOk (((List.range n).filter fun j : Nat => decide (p.co (a + (j : Int)) ≠ 0)).map fun j : Nat => (a + (j : Int), p.co (a + (j : Int)))) p := by
  refine lotOk_of ?_ (fun x hx => ?_) fun k hk => ?_
  · unfold KeysOk
    have h0 : (((List.range n).filter fun j : Nat => decide (p.co (a + (j : Int)) ≠ 0))).Nodup := List.nodup_range.sublist List.filter_sublist
    have e : (((List.range n).filter fun j : Nat => decide (p.co (a + (j : Int)) ≠ 0)).map fun j : Nat => (a + (j : Int), p.co (a + (j : Int)))).map (fun x : Int × Rat => x.1) = ((List.range n).filter fun j : Nat => decide (p.co (a + (j : Int)) ≠ 0)).map fun j : Nat => a + (j : Int) := by
      rw [List.map_map]
      rfl
    show ((((List.range n).filter fun j : Nat => decide (p.co (a + (j : Int)) ≠ 0)).map fun j : Nat => (a + (j : Int), p.co (a + (j : Int)))).map (fun x : Int × Rat => x.1)).Nodup
    rw [e, List.nodup_iff_pairwise_ne, List.pairwise_map]
    rw [List.nodup_iff_pairwise_ne] at h0
    refine List.Pairwise.imp (R := fun x1 x2 : Nat => x1 ≠ x2) (S := fun i j : Nat => a + (i : Int) ≠ a + (j : Int)) (fun {i j} h z => h ?_) h0
    omega
  · obtain ⟨j, hj, rfl⟩ := List.mem_map.mp hx
    exact ⟨of_decide_eq_true (List.mem_filter.mp hj).2, rfl⟩
  · have := h k hk
    refine ⟨_, List.mem_map.mpr ⟨(k - a).toNat, List.mem_filter.mpr ⟨List.mem_range.mpr (by omega), decide_eq_true ?_⟩, rfl⟩, by simp only; omega⟩
    rw [show a + (((k - a).toNat : Nat) : Int) = k by omega]
    exact hk
theorem row_of_lot {p : L} {b t : Int} (hb : Bot p b) (ht : Top p t) : rowOf p = (b, cl b (t + 1 - b).toNat p) := by
  have ne : p ≠ 0 := fun e => by
    have := hb.1
    rw [e, co_zero] at this
    exact this rfl
  obtain ⟨h1, h2, h3⟩ := (rowOf_is p).ne ne
  have e1 : (rowOf p).1 = b := by
    have := hb.2 _ h2.1
    have := h2.2 _ hb.1
    omega
  have e2 : (rowOf p).1 + (rowOf p).2.length - 1 = t := by
    have := ht.2 _ h3.1
    have := h3.2 _ ht.1
    omega
  have := cl_of_row (rowOf_is p)
  refine Prod.ext e1 ?_
  rw [e1] at this
  rw [← this]
  congr 1
  omega
section
variable {P : Program} {w : World} {mg : Str → Option Value} {base : Heap} {K : PySem.W.Frag} {ds ds' ds1 : List (Option DP)} {te tl th : TE} {ta : TA} {tt : TT} {t u : TS} {d d1 d2 : DP} {dl : List DP}
theorem kv_keys {H : Hp} {kvs : List (Key × V)} {tm : Tm} (h : LotIs K H kvs tm) : kvs.map (fun kv => kV kv.1) = tm.map fun x => V.int x.1 := by
  unfold LotIs at h
  induction h with
  | nil => rfl
  | cons a _ ih => rw [List.map_cons, List.map_cons, ih, a.1]; rfl
theorem all_ints {H : Hp} : ∀ ns : List Int, AllIs (ns.map fun i => dV (.int i)) (ns.map V.int) H
  | [] => .nil
  | i :: ns => .cons rfl (all_ints ns)
theorem ints_of {ns : List Int} {vs : List V} {H : Hp} (h : AllIs (ns.map fun i => dV (.int i)) vs H) : vs = ns.map V.int := by
  induction ns generalizing vs with
  | nil => cases h; rfl
  | cons i ns ih =>
    cases h with
    | cons a b =>
      cases a
      rw [ih b]
      rfl
def dInts (K : PySem.W.Frag) (ns : List Int) : DP := dLst K (ns.map fun i => dV (.int i))
theorem rc_listD {tm : Tm} : RcP rListD [dLotT K tm] (dInts K (tm.map fun x => x.1)) := fun vs H h Q q => by
  cases h with
  | cons h1 h2 =>
    cases h2
    obtain ⟨a, kvs, rfl, ha, hk⟩ := h1
    refine ⟨a, kvs, rfl, ha, fun p hp => q _ _ (same_new hp) ⟨p, _, rfl, SqL.of upd_same, ?_⟩⟩
    rw [kv_keys hk]
    have := all_ints (H := upd H p (.lst (tm.map fun x => V.int x.1))) (tm.map fun x => x.1)
    rw [List.map_map, List.map_map] at this
    rw [List.map_map]
    exact this
theorem rc_min {tm : Tm} {p : L} {b : Int} (ok : LotOk tm p) (hb : Bot p b) : RcP (rMin K) [dInts K (tm.map fun x => x.1)] (dV (.int b)) := fun vs H h Q q => by
  cases h with
  | cons h1 h2 =>
    cases h2
    obtain ⟨a, us, rfl, hS, ha⟩ := h1
    have := ints_of ha
    subst this
    have hm : b ∈ tm.map fun x => x.1 := List.mem_map.mpr ⟨(b, p.co b), ok.mem.mpr ⟨rfl, hb.1⟩, rfl⟩
    refine ⟨a, _, rfl, hS, List.length_pos_of_mem hm, fun m hmm hle => ?_⟩
    have e : m = b := by
      have h1 := hle b hm
      obtain ⟨x, hx, rfl⟩ := List.mem_map.mp hmm
      have hx := ok.mem.mp (show (x.1, x.2) ∈ tm from hx)
      have := hb.2 x.1 (by rw [hx.1]; exact hx.2)
      omega
    rw [e]
    exact q _ H (Same.refl H) rfl
theorem rc_max {tm : Tm} {p : L} {b : Int} (ok : LotOk tm p) (hb : Top p b) : RcP (rMax K) [dInts K (tm.map fun x => x.1)] (dV (.int b)) := fun vs H h Q q => by
  cases h with
  | cons h1 h2 =>
    cases h2
    obtain ⟨a, us, rfl, hS, ha⟩ := h1
    have := ints_of ha
    subst this
    have hm : b ∈ tm.map fun x => x.1 := List.mem_map.mpr ⟨(b, p.co b), ok.mem.mpr ⟨rfl, hb.1⟩, rfl⟩
    refine ⟨a, _, rfl, hS, List.length_pos_of_mem hm, fun m hmm hle => ?_⟩
    have e : m = b := by
      have h1 := hle b hm
      obtain ⟨x, hx, rfl⟩ := List.mem_map.mp hmm
      have hx := ok.mem.mp (show (x.1, x.2) ∈ tm from hx)
      have := hb.2 x.1 (by rw [hx.1]; exact hx.2)
      omega
    rw [e]
    exact q _ H (Same.refl H) rfl
theorem ed_min {tm : Tm} {p : L} {b : Int} (ok : LotOk tm p) (hb : Bot p b) (h : EvD te ds (dLotT K tm)) : EvD (tCB (rMin K) (tCons (tCB rListD (tCons te tNil)) tNil)) ds (dV (.int b)) := ed_cb (rc_min ok hb) (ea_cons (ed_cb rc_listD (ea_cons h ea_nil)) ea_nil)
theorem ed_max {tm : Tm} {p : L} {b : Int} (ok : LotOk tm p) (hb : Top p b) (h : EvD te ds (dLotT K tm)) : EvD (tCB (rMax K) (tCons (tCB rListD (tCons te tNil)) tNil)) ds (dV (.int b)) := ed_cb (rc_max ok hb) (ea_cons (ed_cb rc_listD (ea_cons h ea_nil)) ea_nil)
theorem eb_eqNo {p : L} (h : EvD te ds (dLot K p)) : EvB (tTest (tOp (rEqK K) te tDNewK)) ds (isZ p) := eb_test (ed_op op_eqLot h ed_no)
theorem eb_neNoL {p : L} (h : EvD te ds (dLot K p)) : EvB (tTest (tOp (rNeK K) te tDNewK)) ds (!isZ p) := eb_test (ed_op op_neLot h ed_no)
theorem ed_zero2 : EvD (tTup (tCons (tC (.int 0)) (tCons (tC (.int 1)) tNil))) ds (dD K (ratD 0)) := ed_tup (xs := [.int 0, .int 1]) (ea_cons (ed_v.imp imp_int') (ea_cons (ed_v.imp imp_int') ea_nil)) (by simp)
variable (F : Facts K mg)
include F
theorem c__law_lot : C8.Cal P w K mg base 1 "_law_lot" (spF (fun p : L => W 400 p) (fun p => [dD K (pD p)]) (fun p => dLot K p)) [] := by
  have mdict := F.m_dict
  have mrange := F.m_range
  have mlen := F.m_len
  refine fn_ok F.f__law_lot (N := ["_law_line_here", "_law_k"]) (C8.fnScope_by (by decide +kernel)) (fun _ => rfl) fun sc cdv A outer s H E f hr => ⟨_, (pss_one (ps_ret (pe_callTy (call_dictP rfl) (by rfl) mdict (by decide +kernel) (pa_cons (pe_lc (own := [("_law_k", 1)]) rfl sc.nd (pi_range1 (by rfl) mrange (pa_cons (pe_callB call_len (by rfl) mlen PySem.boot_len (pa_cons (pe_ix (r := rIxT K) ix_tup (pv 0) pe_int (fun _ _ => rfl)) pa_nil)) pa_nil)) (blkOk_by (by change blkC ["_law_line_here", "_law_k"] (C8.fnScope (topS 67)) _ _ = true; decide +kernel)) (fun _ _ _ _ _ => (pg_name (i := 1) sc.nd rfl (by first | exact Or.inl rfl | exact Or.inr rfl))) (fun _ _ _ _ _ => (pts_one (pt_cmpR op_ne (pe_ix (r := rIxT K) ix_tup (pe_ix (r := rIxT K) ix_tup (pe_ix (r := rIxT K) ix_tup (pv 0) pe_int (fun _ _ => rfl)) (pv 1) (fun _ _ => rfl)) pe_int (fun _ _ => rfl)) pe_int (nomark _)))) (fun _ _ _ _ _ => (pe_tup (pa_cons (pe_op op_add (pe_ix (r := rIxT K) ix_tup (pv 0) pe_int (fun _ _ => rfl)) (pv 1)) (pa_cons (pe_ix (r := rIxT K) ix_tup (pe_ix (r := rIxT K) ix_tup (pv 0) pe_int (fun _ _ => rfl)) (pv 1) (fun _ _ => rfl)) pa_nil))))) pa_nil)))), fun q hq => ?_⟩
  have b := row_w (by omega) hq
  have hin : In (rowOf q).1 ((rowOf q).1 + (rowOf q).2.length) q := row_in q
  have ok := lot_range hin
  have hn : ∀ j : Nat, j < (rowOf q).2.length → nth (rowOf q).2 (j : Int) = q.co ((rowOf q).1 + (j : Int)) := fun j hj => by
    rw [co_row q]
    congr 1
    omega
  have lnq : EvD _ _ _ := ed_cb (rc_lenD (K := K) (xs := (rowOf q).2.map ratD)) (ea_cons (ed_nums (r := rowOf q) (ds := slots ["_law_line_here", "_law_k"] [dD K (pD q)]) (ed_var (i := 0) rfl)) ea_nil)
  rw [List.length_map] at lnq
  refine b_ret (EvD.imp (ed_cb (rc_dict ok.keys) (ea_cons ?_ ea_nil)) (imp_lot ok))
  rw [List.map_map]
  have := ed_lcR1 (K := K) (hi := ((rowOf q).2.length : Int)) (i := 1) (vs := [1]) (f := fun j => itemD K ((rowOf q).1 + (j : Int), q.co ((rowOf q).1 + (j : Int)))) (p := fun j => decide (q.co ((rowOf q).1 + (j : Int)) ≠ 0)) (tt := tTest (tOp rNe (tOp (rIxT K) (tOp (rIxT K) (tOp (rIxT K) (tVar 0) (tC (.int 1))) (tVar 1)) (tC (.int 0))) (tC (.int 0))))
    (te := tTup (tCons (tOp (rI0 fun i j => .int (i + j)) (tOp (rIxT K) (tVar 0) (tC (.int 0))) (tVar 1)) (tCons (tOp (rIxT K) (tOp (rIxT K) (tVar 0) (tC (.int 1))) (tVar 1)) tNil))) (ea_cons lnq ea_nil) (by omega) (by omega) (by simp) (fun j hj => ?_) (fun j hj hp => ?_) (fun j hj hp => item_stiff)
  · rw [Int.toNat_natCast] at this
    exact this
  · rw [← hn j (by omega), ← dec_num']
    exact eb_test (ed_op (op_neV (by rfl)) (ed_num (ed_op (op_ixT (nth_at (by omega) hj)) (ed_nums (r := rowOf q) (ed_var rfl)) (ed_var rfl))) ed_v)
  · rw [← hn j (by omega)]
    exact ed_item (ed_op op_I0 (ed_start (r := rowOf q) (ed_var rfl)) (ed_var rfl)) (ed_op (op_ixT (nth_at (by omega) hj)) (ed_nums (r := rowOf q) (ed_var rfl)) (ed_var rfl))
theorem c__law_line : C8.Cal P w K mg base 1 "_law_line" (spF (fun p : L => W 400 p) (fun p => [dLot K p]) (fun p => dD K (pD p))) [] := by
  have mmin := F.m_min
  have mlist := F.m_list
  have mtuple := F.m_tuple
  have mrange := F.m_range
  have mmax := F.m_max
  refine fn_ok F.f__law_line (N := ["_law_lot_here", "_law_first", "_law_k"]) (C8.fnScope_by (by decide +kernel)) (fun _ => rfl) fun sc cdv A outer s H E f hr => ⟨_, (pss_cons (ps_if (pt_cmpR (op_eqK (by have h := hr.un; show (A.deeper _).units + 70 < cLine; omega)) (pv 0) pe_dnewK (nomark _)) (pss_one (ps_ret (pe_tup (pa_cons pe_int (pa_cons (pe_tup pa_nil) pa_nil))))) pss_nil) (pss_cons (ps_set (i := 1) sc.nd rfl (Or.inl rfl) (pe_callB (cr_min rfl) (by rfl) mmin (by decide +kernel) (pa_cons (pe_callTy (call_list_dK rfl) (by rfl) mlist (by decide +kernel) (pa_cons (pv 0) pa_nil)) pa_nil))) (pss_one (ps_ret (pe_tup (pa_cons (pv 1) (pa_cons (pe_callTy call_tuple_of (by rfl) mtuple (by decide +kernel) (pa_cons (pe_lc (own := [("_law_k", 2)]) rfl sc.nd (pi_range2 (by rfl) mrange (pa_cons (pv 1) (pa_cons (pe_op op_add (pe_callB (cr_max rfl) (by rfl) mmax (by decide +kernel) (pa_cons (pe_callTy (call_list_dK rfl) (by rfl) mlist (by decide +kernel) (pa_cons (pv 0) pa_nil)) pa_nil)) pe_int) pa_nil))) (blkOk_by (by change blkC ["_law_lot_here", "_law_first", "_law_k"] (C8.fnScope (topS 69)) _ _ = true; decide +kernel)) (fun _ _ _ _ _ => (pg_name (i := 2) sc.nd rfl (by first | exact Or.inl rfl | exact Or.inr rfl))) (fun _ _ _ _ _ => pts_nil) (fun _ _ _ _ _ => (pe_dget2 (by have h := hr.un; show (A.deeper _).units + 1 < cLine; omega) (pv 0) (pv 2) (pe_tup (pa_cons pe_int (pa_cons pe_int pa_nil))) ⟨rfl, rfl, rfl, rfl⟩))) pa_nil)) pa_nil))))))), fun q hq => ?_⟩
  refine b_if (eb_eqNo (p := q) (ed_var rfl)) (fun e => ?_) (fun e => ?_)
  · have e := isZ_iff.mp e
    subst e
    rw [← noughtD_eq]
    exact b_ret (ed_tup (xs := [.int 0, .tuple []]) (ea_cons (ed_v.imp imp_int') (ea_cons (ed_tup (xs := []) ea_nil (by simp)) ea_nil)) (by simp))
  · have ne := isZ_not.mp e
    obtain ⟨b, hb⟩ := exists_bot ne
    obtain ⟨tp, ht⟩ := exists_top ne
    have hw1 := hq b hb.1
    have hw2 := hq tp ht.1
    have hbt := hb.le_top ht
    refine b_open (i := 0) rfl fun tm ok => ?_
    refine b_asg (ed_min ok hb (ed_var rfl)) ?_
    have er := row_of_lot hb ht
    show BdD _ _ (dD K (rowD (rowOf q)))
    rw [er]
    refine b_ret (ed_tup (xs := [.int b, fracsD (cl b (tp + 1 - b).toNat q)]) (ea_cons ((ed_var rfl).imp imp_int') (ea_cons (EvD.imp (ed_cb rc_tuple (ea_cons (ed_lcR2' (g := fun j => q.co (b + (j : Int))) (ea_cons (ed_var rfl) (ea_cons (ed_op op_I0 (ed_max ok ht (ed_var rfl)) ed_v) ea_nil)) (by omega) (by omega) (by simp) fun j hj => ?_) ea_nil)) imp_fracs') ea_nil)) (by simp))
    have := co_lk ok.keys (b + (j : Int))
    rw [ok.eq] at this
    rw [this]
    exact ed_dget2 ((ed_var rfl).imp lot_read) (ed_var rfl) ed_zero2
theorem c__law_scaled : C8.Cal P w K mg base 4 "_law_scaled" (spF (fun q : L × Rat => W 400 q.1 ∧ SmL q.1 ∧ Sm q.2) (fun q => [dLot K q.1, dD K (ratD q.2)]) (fun q => dLot K (L.scale q.2 q.1))) [] := by
  have c_law_cleared := c__law_cleared (P := P) (w := w) (base := base) F
  have mdict := F.m_dict
  have c_law_product := c__law_product (P := P) (w := w) (base := base) F
  refine fn_ok F.f__law_scaled (N := ["_law_lot_here", "_law_by", "_law_k"]) (C8.fnScope_by (by decide +kernel)) (fun _ => rfl) fun sc cdv A outer s H E f hr => ⟨_, (pss_one (ps_ret (C8.pe_c c_law_cleared hr (by decide) (by rfl) (pa_cons (pe_callTy (call_dictP rfl) (by rfl) mdict (by decide +kernel) (pa_cons (pe_lock (pe_lc (own := [("_law_k", 2)]) rfl sc.nd (pi_keys (pv 0)) (blkOk_by (by change blkC ["_law_lot_here", "_law_by", "_law_k"] (C8.fnScope (topS 72)) _ _ = true; decide +kernel)) (fun _ _ _ _ _ => (pg_name (i := 2) sc.nd rfl (by first | exact Or.inl rfl | exact Or.inr rfl))) (fun _ _ _ _ _ => pts_nil) (fun _ _ _ _ _ => (pe_tup (pa_cons (pv 2) (pa_cons (C8.pe_c c_law_product hr (by decide) (by rfl) (pa_cons (pe_dget (by have h := hr.un; show (A.deeper _).units + 1 < cLine; omega) (pv 0) (pv 2) (fun _ _ => rfl)) (pa_cons (pv 1) pa_nil))) pa_nil)))))) pa_nil)) pa_nil)))), fun q hq => ?_⟩
  obtain ⟨p, c⟩ := q
  obtain ⟨wp, sp, sc'⟩ := hq
  refine b_open (i := 0) rfl fun tm ok => ?_
  have hl := lot_len ok wp (by omega)
  have nd : KeysOk ((tm.filter fun _ => true).map fun x => (x.1, x.2 * c)) := by
    rw [filter_true]
    exact keys_map (fk := id) ok.keys fun x _ y _ h => h
  have raw : DP.imp (dLotT K ((tm.filter fun _ => true).map fun x => (x.1, x.2 * c))) (dRaw K (L.scale c p)) := fun v H h => ⟨_, ⟨nd, by rw [filter_true, List.length_map]; omega, by rw [filter_true, ofT_scale, ok.eq]⟩, h⟩
  refine b_ret (ed_call (callP (L.scale c p) trivial) (ea_cons (EvD.imp (ed_dictc (il := 0) (i := 2) (tm := tm) (p := fun _ => true) (fk := fun x => x.1) (fq := fun x => x.2 * c) rfl (lkOk_lot (lkB_some dky_D (lkB_none lkB_nil))) (by omega) (by simp) (fun x hx => eb_yes) (fun x hx _ => ed_var rfl) (fun x hx _ => ?_) nd) raw) ea_nil))
  have hm := ok.mem.mp (show (x.1, x.2) ∈ tm from hx)
  exact ed_call (callP (x.2, c) ⟨by rw [← hm.1]; exact sp _, sc'⟩) (ea_cons (ed_dget (ed_var rfl) (ed_var rfl) (lk_of_mem ok.keys hx)) (ea_cons (ed_var rfl) ea_nil))
theorem c__law_later : C8.Cal P w K mg base 1 "_law_later" (spF (fun q : L × Int => W 400 q.1) (fun q => [dLot K q.1, dV (.int q.2)]) (fun q => dLot K (later q.2 q.1))) [] := by
  have mdict := F.m_dict
  refine fn_ok F.f__law_later (N := ["_law_lot_here", "_law_by", "_law_k"]) (C8.fnScope_by (by decide +kernel)) (fun _ => rfl) fun sc cdv A outer s H E f hr => ⟨_, (pss_one (ps_ret (pe_callTy (call_dictP rfl) (by rfl) mdict (by decide +kernel) (pa_cons (pe_lock (pe_lc (own := [("_law_k", 2)]) rfl sc.nd (pi_keys (pv 0)) (blkOk_by (by change blkC ["_law_lot_here", "_law_by", "_law_k"] (C8.fnScope (topS 74)) _ _ = true; decide +kernel)) (fun _ _ _ _ _ => (pg_name (i := 2) sc.nd rfl (by first | exact Or.inl rfl | exact Or.inr rfl))) (fun _ _ _ _ _ => pts_nil) (fun _ _ _ _ _ => (pe_tup (pa_cons (pe_op op_add (pv 2) (pv 1)) (pa_cons (pe_dget (by have h := hr.un; show (A.deeper _).units + 1 < cLine; omega) (pv 0) (pv 2) (fun _ _ => rfl)) pa_nil)))))) pa_nil)))), fun q hq => ?_⟩
  obtain ⟨p, n⟩ := q
  replace hq : W 400 p := hq
  refine b_open (i := 0) rfl fun tm ok => ?_
  have hl := lot_len ok hq (by omega)
  have ok2 : LotOk ((tm.filter fun _ => true).map fun x => (x.1 + n, x.2)) (later n p) := by
    rw [filter_true]
    refine lotOk_of (keys_map (fk := fun k => k + n) ok.keys fun x _ y _ h => by have h : x.1 + n = y.1 + n := h; omega) (fun x hx => ?_) fun k hk => ?_
    · obtain ⟨y, hy, rfl⟩ := List.mem_map.mp hx
      have hm := ok.mem.mp (show (y.1, y.2) ∈ tm from hy)
      exact ⟨hm.2, by rw [co_later]; simp only; rw [Int.add_sub_cancel]; exact hm.1⟩
    · rw [co_later] at hk
      exact ⟨_, List.mem_map_of_mem (ok.mem.mpr ⟨rfl, hk⟩), by simp only; omega⟩
  exact b_ret (EvD.imp (ed_dictc (il := 0) (i := 2) (tm := tm) (p := fun _ => true) (fk := fun x => x.1 + n) (fq := fun x => x.2) rfl (lkOk_lot (lkB_some dky_V (lkB_none lkB_nil))) (by omega) (by simp) (fun x hx => eb_yes) (fun x hx _ => ed_op op_I0 (ed_var rfl) (ed_var rfl)) (fun x hx _ => ed_dget (ed_var rfl) (ed_var rfl) (lk_of_mem ok.keys hx)) ok2.keys) (imp_lot ok2))
theorem c__law_spread : C8.Cal P w K mg base 1 "_law_spread" (spF (fun p : L => W 200 p) (fun p => [dLot K p]) (fun p => dLot K (spread p))) [] := by
  have mdict := F.m_dict
  refine fn_ok F.f__law_spread (N := ["_law_lot_here", "_law_k"]) (C8.fnScope_by (by decide +kernel)) (fun _ => rfl) fun sc cdv A outer s H E f hr => ⟨_, (pss_one (ps_ret (pe_callTy (call_dictP rfl) (by rfl) mdict (by decide +kernel) (pa_cons (pe_lock (pe_lc (own := [("_law_k", 1)]) rfl sc.nd (pi_keys (pv 0)) (blkOk_by (by change blkC ["_law_lot_here", "_law_k"] (C8.fnScope (topS 75)) _ _ = true; decide +kernel)) (fun _ _ _ _ _ => (pg_name (i := 1) sc.nd rfl (by first | exact Or.inl rfl | exact Or.inr rfl))) (fun _ _ _ _ _ => pts_nil) (fun _ _ _ _ _ => (pe_tup (pa_cons (pe_op op_mulW pe_int (pv 1)) (pa_cons (pe_dget (by have h := hr.un; show (A.deeper _).units + 1 < cLine; omega) (pv 0) (pv 1) (fun _ _ => rfl)) pa_nil)))))) pa_nil)))), fun q hq => ?_⟩
  refine b_open (i := 0) rfl fun tm ok => ?_
  have hl := lot_len ok hq (by omega)
  have ok2 : LotOk ((tm.filter fun _ => true).map fun x => (2 * x.1, x.2)) (spread q) := by
    rw [filter_true]
    refine lotOk_of (keys_map (fk := fun k => 2 * k) ok.keys fun x _ y _ h => by have h : 2 * x.1 = 2 * y.1 := h; omega) (fun x hx => ?_) fun k hk => ?_
    · obtain ⟨y, hy, rfl⟩ := List.mem_map.mp hx
      have hm := ok.mem.mp (show (y.1, y.2) ∈ tm from hy)
      refine ⟨hm.2, ?_⟩
      rw [co_spread]
      simp only
      rw [if_pos (by omega), show 2 * y.1 / 2 = y.1 by omega]
      exact hm.1
    · rw [co_spread] at hk
      split at hk
      · exact ⟨_, List.mem_map_of_mem (ok.mem.mpr ⟨rfl, hk⟩), by simp only; omega⟩
      · exact absurd rfl hk
  refine b_ret (EvD.imp (ed_dictc (il := 0) (i := 1) (tm := tm) (p := fun _ => true) (fk := fun x => 2 * x.1) (fq := fun x => x.2) rfl (lkOk_lot (lkB_none lkB_nil)) (by omega) (by simp) (fun x hx => eb_yes) (fun x hx _ => ed_mul ed_v (ed_var rfl) (by decide) (lt_of_lt ?_)) (fun x hx _ => ed_dget (ed_var rfl) (ed_var rfl) (lk_of_mem ok.keys hx)) ok2.keys) (imp_lot ok2))
  have hm := ok.mem.mp (show (x.1, x.2) ∈ tm from hx)
  have := hq x.1 (by rw [hm.1]; exact hm.2)
  omega
theorem c__law_part : C8.Cal P w K mg base 1 "_law_part" (spF (fun q : L × Int => W 400 q.1 ∧ (q.2 = 0 ∨ q.2 = 1)) (fun q => [dLot K q.1, dV (.int q.2)]) (fun q => dLot K (if q.2 = 0 then even q.1 else odd q.1))) [] := by
  have mdict := F.m_dict
  have mint := F.m_int
  refine fn_ok F.f__law_part (N := ["_law_lot_here", "_law_odd", "_law_k"]) (C8.fnScope_by (by decide +kernel)) (fun _ => rfl) fun sc cdv A outer s H E f hr => ⟨_, (pss_one (ps_ret (pe_callTy (call_dictP rfl) (by rfl) mdict (by decide +kernel) (pa_cons (pe_lock (pe_lc (own := [("_law_k", 2)]) rfl sc.nd (pi_keys (pv 0)) (blkOk_by (by change blkC ["_law_lot_here", "_law_odd", "_law_k"] (C8.fnScope (topS 76)) _ _ = true; decide +kernel)) (fun _ _ _ _ _ => (pg_name (i := 2) sc.nd rfl (by first | exact Or.inl rfl | exact Or.inr rfl))) (fun _ _ _ _ _ => (pts_one (pt_cmpR op_eq (pe_op op_modN (pe_callTy call_int1 (by rfl) mint (by decide +kernel) (pa_cons (pe_op op_sub (pv 2) (pv 1)) pa_nil)) pe_int) pe_int (nomark _)))) (fun _ _ _ _ _ => (pe_tup (pa_cons (pe_op op_fdivX (pe_op op_sub (pv 2) (pv 1)) pe_int) (pa_cons (pe_dget (by have h := hr.un; show (A.deeper _).units + 1 < cLine; omega) (pv 0) (pv 2) (fun _ _ => rfl)) pa_nil)))))) pa_nil)))), fun q hq => ?_⟩
  obtain ⟨p, n⟩ := q
  obtain ⟨wp, hn⟩ := hq
  replace wp : W 400 p := wp
  replace hn : n = 0 ∨ n = 1 := hn
  refine b_open (i := 0) rfl fun tm ok => ?_
  have hl := lot_len ok wp (by omega)
  have co2 : ∀ k, (if n = 0 then even p else odd p).co k = p.co (2 * k + n) := fun k => by
    rcases hn with z | z
    · rw [if_pos z, co_even, z, Int.add_zero]
    · rw [if_neg (by omega), co_odd, z]
  have ok2 : LotOk ((tm.filter fun x => decide ((x.1 - n) % 2 = 0)).map fun x => ((x.1 - n) / 2, x.2)) (if n = 0 then even p else odd p) := by
    refine lotOk_of (keys_map (fk := fun k => (k - n) / 2) (keys_filter _ ok.keys) fun x hx y hy h => ?_) (fun x hx => ?_) fun k hk => ?_
    · have h1 := of_decide_eq_true (List.mem_filter.mp hx).2
      have h2 := of_decide_eq_true (List.mem_filter.mp hy).2
      omega
    · obtain ⟨y, hy, rfl⟩ := List.mem_map.mp hx
      have h1 := List.mem_filter.mp hy
      have h2 := of_decide_eq_true h1.2
      have hm := ok.mem.mp (show (y.1, y.2) ∈ tm from h1.1)
      refine ⟨hm.2, ?_⟩
      rw [co2]
      simp only
      rw [show 2 * ((y.1 - n) / 2) + n = y.1 by omega]
      exact hm.1
    · rw [co2] at hk
      exact ⟨_, List.mem_map_of_mem (List.mem_filter.mpr ⟨ok.mem.mpr ⟨rfl, hk⟩, decide_eq_true (by simp only; omega)⟩), by simp only; omega⟩
  have fd : ∀ z : Int, z.fdiv 2 = z / 2 := fun z => Int.fdiv_eq_ediv_of_nonneg z (by decide)
  have fm : ∀ z : Int, z.fmod 2 = z % 2 := fun z => Int.fmod_eq_emod_of_nonneg z (by decide)
  refine b_ret (EvD.imp (ed_dictc (il := 0) (i := 2) (tm := tm) (p := fun x => decide ((x.1 - n) % 2 = 0)) (fk := fun x => (x.1 - n) / 2) (fq := fun x => x.2) rfl (lkOk_lot (lkB_some dky_V (lkB_none lkB_nil))) (by omega) (by simp) (fun x hx => ?_) (fun x hx _ => EvD.to (ed_op (op_I (cdiv_small (by decide) (by decide))) (ed_op op_I0 (ed_var rfl) (ed_var rfl)) ed_v) (by rw [fd])) (fun x hx _ => ed_dget (ed_var rfl) (ed_var rfl) (lk_of_mem ok.keys hx)) ok2.keys) (imp_lot ok2))
  have : decide (V.int ((x.1 - n).fmod 2) = V.int 0) = decide ((x.1 - n) % 2 = 0) := by
    rw [fm]
    by_cases e : (x.1 - n) % 2 = 0
    · rw [e]
      rfl
    · rw [decide_eq_false e, decide_eq_false (fun z => e (V.int.inj z))]
  rw [← this]
  exact eb_test (ed_op (op_eqV (by rfl)) (ed_op (op_mod2 (by decide)) (ed_cb rc_int (ea_cons (ed_op op_I0 (ed_var rfl) (ed_var rfl)) ea_nil)) ed_v) ed_v)
end
end K65

/-! K65LD: sums and products of lots -/
namespace K65
open PySem PySem.Spec PyProof.Rows L2
/-- the dict at F is another -/
structure FCh (F : Addr) (H H' : Hp) : Prop where
  ex : ∃ fks, H F = some (.dK fks)
  rest : ∀ b o, b ≠ F → H b = some o → H' b = some o
theorem FCh.keepD {F : Addr} {H H' : Hp} (c : FCh F H H') : KeepD H H' := fun b o e n1 n2 => by
  refine c.rest b o (fun z => ?_) e
  subst z
  obtain ⟨fks, h⟩ := c.ex
  rw [h] at e
  exact n1 _ (Option.some.inj e).symm
def OkF (F : Addr) (d : DP) : Prop := ∀ v H H', FCh F H H' → d.is v H → d.is v H'
theorem okF_dky {F : Addr} {d : DP} (h : Dky d) : OkF F d := fun v H H' c q => h v H H' c.keepD q
/-- a lot at a known address; one that is read through -/
def dLA (K : PySem.W.Frag) (a : Addr) (t : Tm) : DP := ⟨fun v H => v = .ref a ∧ ∃ kvs, H a = some (.dK kvs) ∧ LotIs K H kvs t, fun e h => by
  obtain ⟨h1, kvs, h2, h3⟩ := h
  exact ⟨h1, kvs, e _ _ h2, h3.mono e⟩⟩
def dLZ (K : PySem.W.Frag) (a : Addr) (t : Tm) : DP := ⟨fun v H => v = .ref a ∧ ∃ od kvs, H a = some (.frz od (.dK kvs)) ∧ LotIs K H kvs t, fun e h => by
  obtain ⟨h1, od, kvs, h2, h3⟩ := h
  exact ⟨h1, od, kvs, e _ _ h2, h3.mono e⟩⟩
section
variable {K : PySem.W.Frag} {ds ds1 ds2 ds' base : List (Option DP)} {te to ti tl th KEY VAL : TE} {tt : TT} {ta : TA} {t u : TS} {d d1 d2 : DP} {dl : List DP} {A F a : Addr} {tm : Tm}
theorem imp_LA : DP.imp (dLA K a tm) (dLotT K tm) := fun v H h => by
  obtain ⟨h1, kvs, h2, h3⟩ := h
  exact ⟨a, kvs, h1, h2, h3⟩
theorem imp_LAR : DP.imp (dLA K a tm) (dLotR K tm) := fun v H h => lot_read v H (imp_LA v H h)
theorem imp_LZ : DP.imp (dLZ K a tm) (dLotR K tm) := fun v H h => by
  obtain ⟨h1, od, kvs, h2, h3⟩ := h
  exact ⟨a, kvs, h1, .inr ⟨od, h2⟩, h3⟩
theorem okF_LA (h : a ≠ F) : OkF F (dLA K a tm) := fun v H H' c q => by
  obtain ⟨h1, kvs, h2, h3⟩ := q
  exact ⟨h1, kvs, c.rest _ _ h h2, h3.keepD c.keepD⟩
theorem okF_LZ : OkF F (dLZ K a tm) := fun v H H' c q => by
  obtain ⟨h1, od, kvs, h2, h3⟩ := q
  refine ⟨h1, od, kvs, c.rest _ _ (fun z => ?_) h2, h3.keepD c.keepD⟩
  subst z
  obtain ⟨fks, h⟩ := c.ex
  rw [h] at h2
  cases h2
inductive OkFL (F : Addr) : List (Option DP) → Prop
  | nil : OkFL F []
  | none {l : List (Option DP)} : OkFL F l → OkFL F (Option.none :: l)
  | some {d : DP} {l : List (Option DP)} : OkF F d → OkFL F l → OkFL F (Option.some d :: l)
theorem OkFL.get {l : List (Option DP)} (h : OkFL F l) : ∀ {i : Nat} {d : DP}, l[i]? = Option.some (Option.some d) → OkF F d := by
  induction h with
  | nil => intro i d e; simp at e
  | none _ ih =>
    intro i d e
    cases i with
    | zero => cases e
    | succ i => exact ih (by simpa using e)
  | some a _ ih =>
    intro i d e
    cases i with
    | zero =>
      have e := Option.some.inj (Option.some.inj e)
      subst e
      exact a
    | succ i => exact ih (by simpa using e)
/-- what is summed up: the first j entries -/
def accL (p : L) (key : Int → Int) (val : Rat → Rat) : Tm → L
  | [] => p
  | x :: t => accL (p + mono (key x.1) (val x.2)) key val t
/-- for k in a lot that is read through: found[key] = sum(found.get(key, nought), val) -/
theorem acc_loop {iF i2 ik : Nat} {d2 : Addr} {t2 : Tm} {key : Int → Int} {val : Rat → Rat} {E : XK} (hF : base[iF]? = some none) (hk : base[ik]? = some none) (hne : ik ≠ iF) (h2 : base[i2]? = some (some (dLZ K d2 t2))) (hok : OkFL F base)
    (hkey : ∀ x ∈ t2, ∀ ft, EvD KEY ((base.set iF (some (dLA K F ft))).set ik (some (dV (.int x.1)))) (dV (.int (key x.1))))
    (hval : ∀ x ∈ t2, ∀ ft, EvD VAL ((base.set iF (some (dLA K F ft))).set ik (some (dV (.int x.1)))) (dD K (ratD (val x.2)))) (hv : ∀ x ∈ t2, Sm (val x.2))
    {p : L} (hp : ∀ a x b, t2 = a ++ x :: b → Sm ((accL p key val a).co (key x.1))) {n : Nat} (hn : n + t2.length ≤ 1000000) :
    ∀ (D : Ends) (σ : L2.St) (H : Hp) (ft : Tm), KeysOk ft → ofT ft = p → ft.length ≤ n → Sl σ (base.set iF (some (dLA K F ft))) H →
      (∀ σ' H' ft', FCh F H H' → KeysOk ft' → ofT ft' = accL p key val t2 → ft'.length ≤ n + t2.length → Sl σ' (base.set iF (some (dLA K F ft'))) H' → D.nx σ' H') →
      tFor (iKeys (tVar i2)) (gName ik) (sDPut (tVar iF) KEY (tCall (spF (fun q : Rat × Rat => Sm q.1 ∧ Sm q.2) (fun q => [dD K (ratD q.1), dD K (ratD q.2)]) (fun q => dD K (ratD (q.1 + q.2)))) [] E (tCons (tDGet2 (tVar iF) KEY (tTup (tCons (tC (.int 0)) (tCons (tC (.int 1)) tNil)))) (tCons VAL tNil)))) D σ H := by
  intro D σ H ft hft eft nft s q
  have hi2F : i2 ≠ iF := fun e => by
    rw [e, hF] at h2
    cases h2
  have hi2k : i2 ≠ ik := fun e => by
    rw [e, hk] at h2
    cases h2
  obtain ⟨v, hv1, rfl, od, kvs, hfz, hl2⟩ := s.at' i2 _ (by rw [List.getElem?_set, if_neg hi2F.symm]; exact h2)
  refine ⟨.ref d2, hv1, d2, od, rfl, .inl ⟨kvs, hfz, ?_⟩⟩
  have hlen : kvs.length = t2.length := hl2.length
  have hFH : ∃ fks, H F = some (.dK fks) := by
    obtain ⟨w0, _, _, fks, h, _⟩ := s.at' iF (dLA K F ft) (by rw [List.getElem?_set, if_pos rfl, if_pos (List.getElem?_eq_some_iff.mp hF).1])
    exact ⟨fks, h⟩
  have hd2F : d2 ≠ F := fun z => by
    subst z
    obtain ⟨fks, h⟩ := hFH
    rw [h] at hfz
    cases hfz
  refine for_it (walk_keys (d := d2) (o := od) (kvs := kvs)) (fun j σ2 H2 => FCh F H H2 ∧ ∃ fj, KeysOk fj ∧ ofT fj = accL p key val (t2.take j) ∧ fj.length ≤ n + j ∧ Sl σ2 (base.set iF (some (dLA K F fj))) H2)
    ⟨⟨hFH, fun b o _ h => h⟩, ft, hft, eft, nft, s⟩ (fun j σ2 H2 _ hp => hp.1.rest _ _ hd2F hfz) (fun j x σ2 H2 H3 hj hpv hy => ?_) (fun σ2 H2 hpv => ?_)
  · obtain ⟨rfl, k, w0, hx, rfl⟩ := hy
    obtain ⟨c, fj, hfj, efj, nfj, sj⟩ := hpv
    have hj' : j < t2.length := by omega
    have ek : k = Sum.inl (t2[j]).1 := by
      have hgen : ∀ {kvs : List (Key × V)} {tm : Tm} {j : Nat} {k : Key} {w0 : V} (h : j < tm.length), Paired (fun (kv : Key × V) (x : Int × Rat) => kv.1 = Sum.inl x.1 ∧ Dp K H kv.2 (ratD x.2)) kvs tm → kvs[j]? = some (k, w0) → k = Sum.inl (tm[j]).1 := by
        intro kvs tm j k w0 h hp
        induction hp generalizing j with
        | nil => simp at h
        | @cons kv x kvs tm a _ ih =>
          intro h'
          cases j with
          | zero =>
            have h' : kv = (k, w0) := Option.some.inj h'
            have := a.1
            rw [h'] at this
            exact this
          | succ j =>
            have := ih (j := j) (by simpa using h) (by simpa using h')
            simpa using this
      exact hgen hj' hl2 hx
    subst ek
    generalize hxj : t2[j] = x at *
    have hm : x ∈ t2 := by rw [← hxj]; exact List.getElem_mem hj'
    have sk : Sl (σ2.set ik (some (.int x.1))) ((base.set iF (some (dLA K F fj))).set ik (some (dV (.int x.1)))) H3 := sj.set ik rfl
    -- the value
    have tkj : t2.take (j + 1) = t2.take j ++ [x] := by rw [List.take_add_one, List.getElem?_eq_getElem hj', hxj]; rfl
    have accs : ∀ (a : Tm) (p : L), accL p key val (a ++ [x]) = accL p key val a + mono (key x.1) (val x.2) := fun a => by
      induction a with
      | nil => intro p; rfl
      | cons y a ih => intro p; exact ih _
    have sF : ((base.set iF (some (dLA K F fj))).set ik (some (dV (.int x.1))))[iF]? = some (some (dLA K F fj)) := by
      rw [List.getElem?_set, if_neg hne, List.getElem?_set, if_pos rfl, if_pos (List.getElem?_eq_some_iff.mp hF).1]
    have get : EvD (tDGet2 (tVar iF) KEY (tTup (tCons (tC (.int 0)) (tCons (tC (.int 1)) tNil)))) ((base.set iF (some (dLA K F fj))).set ik (some (dV (.int x.1)))) (dD K (ratD ((accL p key val (t2.take j)).co (key x.1)))) := by
      rw [← efj, co_lk hfj]
      exact ed_dget2 ((ed_var sF).imp imp_LAR) (hkey x hm fj) ed_zero2
    have smj : Sm ((accL p key val (t2.take j)).co (key x.1)) := hp _ x (t2.drop (j + 1)) (by
      conv => lhs; rw [← List.take_append_drop (j + 1) t2, tkj]
      rw [List.append_assoc]
      rfl)
    have sum := ed_call (E := E) (callP (pre := fun q : Rat × Rat => Sm q.1 ∧ Sm q.2) (dl := fun q => [dD K (ratD q.1), dD K (ratD q.2)]) (d := fun q => dD K (ratD (q.1 + q.2))) ((accL p key val (t2.take j)).co (key x.1), val x.2) ⟨smj, hv x hm⟩) (ea_cons get (ea_cons (hval x hm fj) ea_nil))
    refine sum _ H3 sk _ fun v H4 e4 hv4 => ?_
    obtain ⟨wF, hw, rfl, fks, hF4, hl4⟩ := (sk.mono e4).at' iF _ sF
    refine ⟨_, hw, hkey x hm fj _ H4 (sk.mono e4) _ fun y H5 e5 hy => ?_⟩
    cases hy
    have hF5 := e5 _ _ hF4
    have hl5 := hl4.mono e5
    refine ⟨F, _, rfl, .inl ⟨fks, Sum.inl (key x.1), hF5, rfl, ?_, rfl⟩, ?_⟩
    · rw [hl4.length, sizeLine_eq]
      omega
    · have c5 : FCh F H5 (upd H5 F (.dK (putK fks (Sum.inl (key x.1)) v))) := ⟨⟨fks, hF5⟩, fun b o ne h => by rw [upd_ne ne]; exact h⟩
      refine ⟨⟨hFH, fun b o ne h => c5.rest _ _ ne (e5 _ _ (e4 _ _ (c.rest _ _ ne h)))⟩, putT fj (key x.1) ((accL p key val (t2.take j)).co (key x.1) + val x.2), keys_put hfj, ?_, ?_, ?_⟩
      · rw [ofT_put hfj, efj, tkj, accs]
        congr 2
        grind
      · unfold putT
        split
        · rw [List.length_map]
          omega
        · rw [List.length_append]
          simp
          omega
      · have s5 := (sk.mono e4).mono e5
        refine ⟨s5.len.trans (by rw [List.length_set, List.length_set, List.length_set]), fun i dd hd => ?_⟩
        rw [List.getElem?_set] at hd
        by_cases e : iF = i
        · subst e
          rw [if_pos rfl] at hd
          split at hd
          · have hd := Option.some.inj (Option.some.inj hd)
            subst hd
            refine ⟨.ref F, hw, rfl, _, upd_same, ?_⟩
            exact (hl5.put (dp_mono e5 _ _ hv4)).keepD c5.keepD
          · cases hd
        · rw [if_neg e] at hd
          have hik : i ≠ ik := fun z => by
            rw [z, hk] at hd
            cases hd
          obtain ⟨w1, h1, h2'⟩ := s5.at' i dd (by rw [List.getElem?_set, if_neg hik.symm, List.getElem?_set, if_neg e]; exact hd)
          exact ⟨w1, h1, hok.get hd _ _ _ c5 h2'⟩
  · obtain ⟨c, fj, hfj, efj, nfj, sj⟩ := hpv
    rw [hlen, List.take_length] at efj
    exact q σ2 H2 fj c hfj efj (by omega) sj
/-- a new lot -/
def EvFr (K : PySem.W.Frag) (te : TE) (ds : List (Option DP)) (tm : Tm) : Prop := ∀ σ H, Sl σ ds H → ∀ Q : VK, (∀ F H', H F = none → Same H H' → (dLA K F tm).is (.ref F) H' → Q (.ref F) H') → te σ H Q
theorem fr_new : EvFr K tDNewK ds [] := fun σ H s Q q p hp => q p _ hp (same_new hp) ⟨rfl, [], upd_same, .nil⟩
theorem fr_dict {tm : Tm} (hk : KeysOk tm) (h : EvD tl ds (dLst K (tm.map (itemD K)))) : EvFr K (tCB (fun xs H Q => ∃ (a : Addr) (ps : List Addr) (kvs : List (Key × V)), xs = [.ref a] ∧ SqL K H a (ps.map V.ref) ∧ Paired (fun p kv => SqT K H p [kV kv.1, kv.2]) ps kvs ∧ ∀ p, H p = none → Q (.ref p) (upd H p (.dK (mergeK [] kvs)))) (tCons tl tNil)) ds tm := fun σ H s Q q =>
  h σ H s _ fun v H1 e1 hv => by
    obtain ⟨a, us, rfl, hS, ha⟩ := hv
    have : ∃ (ps : List Addr) (kvs : List (Key × V)), us = ps.map V.ref ∧ Paired (fun p kv => SqT K H1 p [kV kv.1, kv.2]) ps kvs ∧ LotIs K H1 kvs tm := by
      clear hS hk q h
      induction tm generalizing us with
      | nil => cases ha; exact ⟨[], [], rfl, .nil, .nil⟩
      | cons x tm ih =>
        cases ha with
        | cons a1 a2 =>
          obtain ⟨ps, kvs, e1, e2, e3⟩ := ih _ a2
          obtain ⟨b, ws, rfl, hb, hw⟩ := a1
          cases hw with
          | @cons _ _ w1 _ _ b1 r1 => cases r1 with
            | @cons _ _ w2 _ _ b2 r2 =>
              cases r2
              cases b1
              exact ⟨b :: ps, (Sum.inl x.1, w2) :: kvs, by rw [e1]; rfl, .cons hb e2, .cons ⟨rfl, b2⟩ e3⟩
    obtain ⟨ps, kvs, rfl, e2, e3⟩ := this
    refine ⟨a, ps, kvs, rfl, hS, e2, fun p hp => q p _ (none_back e1 hp) (e1.trans (same_new hp)) ⟨rfl, kvs, ?_, e3.mono (same_new hp)⟩⟩
    have nd : (([] ++ kvs).map fun kv : Key × V => kv.1).Nodup := by
      rw [List.nil_append]
      have : kvs.map (fun kv => kv.1) = tm.map fun x : Int × Rat => (Sum.inl x.1 : Key) := by
        clear e2 hS ha hk q h
        unfold LotIs at e3
        induction e3 with
        | nil => rfl
        | cons a _ ih => rw [List.map_cons, List.map_cons, a.1, ih]
      rw [this]
      unfold KeysOk at hk
      rw [List.nodup_iff_pairwise_ne] at hk ⊢
      rw [List.pairwise_map] at hk ⊢
      exact hk.imp fun h z => h (Sum.inl.inj z)
    rw [mergeK_nodup nd, List.nil_append]
    exact upd_same
theorem b_fr {i : Nat} (h : EvFr K te ds tm) (k : ∀ (D : Ends) (σ : L2.St) (H : Hp) (F : Addr) (H1 : Hp), Sl σ ds H → (∀ v H', Same H H' → d.is v H' → D.rt v H') → H F = none → Same H H1 → (dLA K F tm).is (.ref F) H1 → u D (σ.set i (some (.ref F))) H1) : BdD (tSeq (tAsg te (gName i)) u) ds d := fun D σ H s q =>
  h σ H s _ fun F H1 a b c => k D σ H F H1 s q a b c
theorem accL_plus : ∀ (t : Tm) (p : L), accL p id id t = p + ofT t
  | [], p => by show p = p + 0; grind
  | x :: t, p => by
    show accL (p + mono x.1 x.2) id id t = _
    rw [accL_plus t, ofT_cons]
    grind
theorem upd_frz_LA {H : Hp} {d F : Addr} {u : HO} {tm : Tm} {v : V} (ne : F ≠ d) (kd : KeepD H (upd H d u)) (h : (dLA K F tm).is v H) : (dLA K F tm).is v (upd H d u) := by
  obtain ⟨h1, kvs, h2, h3⟩ := h
  exact ⟨h1, kvs, by rw [upd_ne ne]; exact h2, h3.keepD kd⟩
end
section
variable {P : Program} {w : World} {mg : Str → Option Value} {base : Heap} {K : PySem.W.Frag}
variable (F : Facts K mg)
include F
theorem c__law_plus : C8.Cal P w K mg base 4 "_law_plus" (spF (fun q : L × L => SmL q.1 ∧ SmL q.2 ∧ W 200 q.1 ∧ W 200 q.2) (fun q => [dLot K q.1, dLot K q.2]) (fun q => dLot K (q.1 + q.2))) [] := by
  have mdict := F.m_dict
  have c_law_cleared := c__law_cleared (P := P) (w := w) (base := base) F
  have c_law_sum := c__law_sum (P := P) (w := w) (base := base) F
  refine fn_ok F.f__law_plus (N := ["_law_one", "_law_two_here", "_law_found", "_law_k"]) (C8.fnScope_by (by decide +kernel)) (fun _ => rfl) fun sc cdv A outer s H E f hr => ⟨_, (pss_cons (ps_set (i := 2) sc.nd rfl (Or.inl rfl) (pe_callTy (call_dictP rfl) (by rfl) mdict (by decide +kernel) (pa_cons (pe_lock (pe_lc (own := [("_law_k", 3)]) rfl sc.nd (pi_keys (pv 0)) (blkOk_by (by change blkC ["_law_one", "_law_two_here", "_law_found", "_law_k"] (C8.fnScope (topS 70)) _ _ = true; decide +kernel)) (fun _ _ _ _ _ => (pg_name (i := 3) sc.nd rfl (by first | exact Or.inl rfl | exact Or.inr rfl))) (fun _ _ _ _ _ => pts_nil) (fun _ _ _ _ _ => (pe_tup (pa_cons (pv 3) (pa_cons (pe_dget (by have h := hr.un; show (A.deeper _).units + 1 < cLine; omega) (pv 0) (pv 3) (fun _ _ => rfl)) pa_nil)))))) pa_nil))) (pss_cons (ps_lock (ps_for PassesOwn.never rfl (pi_keys (pv 1)) (pg_name (i := 3) sc.nd rfl (Or.inl rfl)) (pss_one (ps_dput (by have h := hr.un; show (A.deeper _).units + 1 < cLine; omega) (pv 2) (pv 3) (C8.pe_c c_law_sum hr (by decide) (by rfl) (pa_cons (pe_dget2 (by have h := hr.un; show (A.deeper _).units + 1 < cLine; omega) (pv 2) (pv 3) (pe_tup (pa_cons pe_int (pa_cons pe_int pa_nil))) ⟨rfl, rfl, rfl, rfl⟩) (pa_cons (pe_dget (by have h := hr.un; show (A.deeper _).units + 1 < cLine; omega) (pv 1) (pv 3) (fun _ _ => rfl)) pa_nil))) rfl)))) (pss_one (ps_ret (C8.pe_c c_law_cleared hr (by decide) (by rfl) (pa_cons (pv 2) pa_nil)))))), fun q hq => ?_⟩
  obtain ⟨p, q⟩ := q
  obtain ⟨sp, sq, wp, wq⟩ := hq
  refine b_open (i := 0) rfl fun t1 ok1 => b_open (i := 1) rfl fun t2 ok2 => ?_
  have hl1 := lot_len ok1 wp (by omega)
  have hl2 := lot_len ok2 wq (by omega)
  have cp := fr_dict (K := K) (tm := t1) ok1.keys (tl := tLockE (tLc (iKeys (tVar 0)) (gName 3) tYes (tTup (tCons (tVar 3) (tCons (tDGet (tVar 0) (tVar 3)) tNil))) [3])) (ds := [some (dLotT K t1), some (dLotT K t2), none, none]) (by
    have := ed_keys (K := K) (te := tTup (tCons (tVar 3) (tCons (tDGet (tVar 0) (tVar 3)) tNil))) (tt := tYes) (ds := [some (dLotT K t1), some (dLotT K t2), none, none]) (il := 0) (i := 3) (tm := t1) (vs := [3]) (p := fun _ => true) (f := itemD K) (dsR := [some (dLotR K t1), none, none, none]) rfl (lkOk_lot (lkB_none (lkB_none (lkB_none lkB_nil)))) (by omega) (by simp) (fun x hx => eb_yes) (fun x hx _ => ed_item (ed_var rfl) (ed_dget (ed_var rfl) (ed_var rfl) (lk_of_mem ok1.keys hx))) (fun x _ _ => ⟨item_stiff, item_dky⟩)
    rw [filter_true] at this
    exact this)
  refine b_fr cp fun D σ H Fa H1 s fin hFa e1 hLA => ?_
  obtain ⟨v2, hv2, d2, kvs2, rfl, hd2, hk2⟩ := s.at' 1 (dLotT K t2) rfl
  have nd2 : d2 ≠ Fa := ne_of_none hd2 hFa
  have hd21 : H1 d2 = some (.dK kvs2) := e1 _ _ hd2
  have len : σ.length = 4 := s.len
  refine ⟨d2, .dK kvs2, hd21, trivial, fun od => ?_⟩
  have kd := frz_keepD (od := od) hd21
  have hsm : ∀ a x b, t2 = a ++ x :: b → Sm ((accL p id id a).co (id x.1)) := fun a x b e => by
    rw [accL_plus, co_add]
    have ka : KeysOk a := by
      have := ok2.keys
      unfold KeysOk at *
      rw [e, List.map_append] at this
      exact (List.nodup_append.mp this).1
    have : (ofT a).co x.1 = 0 := by
      rw [co_lk ka, lk_none_of]
      · rfl
      · have := ok2.keys
        unfold KeysOk at this
        rw [e, List.map_append, List.nodup_append] at this
        intro hm
        exact this.2.2 x.1 hm x.1 (by simp) rfl
    show Sm (p.co x.1 + (ofT a).co x.1)
    rw [this, show p.co x.1 + 0 = p.co x.1 by grind]
    exact sp _
  refine acc_loop (base := [none, some (dLZ K d2 t2), none, none]) (iF := 2) (i2 := 1) (ik := 3) (F := Fa) (d2 := d2) (t2 := t2) (key := id) (val := id) (p := p) (n := 450) rfl rfl (by decide) rfl (.none (.some okF_LZ (.none (.none .nil)))) (fun x hx ft => ed_var rfl) (fun x hx ft => ed_dget ((ed_var rfl).imp imp_LZ) (ed_var rfl) (lk_of_mem ok2.keys hx)) (fun x hx => ?_) hsm (by omega) _ (σ.set 2 (some (.ref Fa))) _ t1 ok1.keys ok1.eq (by omega) ⟨by rw [List.length_set, len]; rfl, fun i dd hd => ?_⟩ (fun σ' H' ft' c hft' eft' nft' s' => ?_)
  · have hm := ok2.mem.mp (show (x.1, x.2) ∈ t2 from hx)
    show Sm x.2
    rw [← hm.1]
    exact sq _
  · match i, hd with
    | 0, hd => cases hd
    | 1, hd =>
      have hd := Option.some.inj (Option.some.inj hd)
      subst hd
      exact ⟨.ref d2, by rw [List.getElem?_set, if_neg (by decide)]; exact hv2, rfl, od, kvs2, upd_same, (hk2.mono e1).keepD kd⟩
    | 2, hd =>
      have hd := Option.some.inj (Option.some.inj hd)
      subst hd
      exact ⟨.ref Fa, by rw [List.getElem?_set, if_pos rfl, if_pos (by omega)], upd_frz_LA nd2.symm kd hLA⟩
    | 3, hd => cases hd
    | i + 4, hd => simp at hd
  · have hfz : H' d2 = some (.frz od (.dK kvs2)) := c.rest _ _ nd2 upd_same
    refine ⟨hfz, ?_⟩
    have ku := unf_keepD hfz
    have sE : Same H (upd H' d2 (.dK kvs2)) := fun b o hb => by
      by_cases z : b = d2
      · subst z
        rw [hd2] at hb
        have hb := Option.some.inj hb
        subst hb
        exact upd_same
      · rw [upd_ne z]
        exact c.rest _ _ (ne_of_none hb hFa) (by rw [upd_ne z]; exact e1 _ _ hb)
    obtain ⟨w0, hw0, hLA'⟩ := s'.at' 2 (dLA K Fa ft') rfl
    have hraw : (dRaw K (p + q)).is w0 (upd H' d2 (.dK kvs2)) := ⟨ft', ⟨hft', by omega, by rw [eft', accL_plus, ok2.eq]⟩, imp_LA _ _ (upd_frz_LA nd2.symm ku hLA')⟩
    have sl : Sl σ' [none, none, some (dRaw K (p + q)), none] (upd H' d2 (.dK kvs2)) := ⟨s'.len, fun i dd hd => by
      match i, hd with
      | 0, hd => cases hd
      | 1, hd => cases hd
      | 2, hd =>
        have hd := Option.some.inj (Option.some.inj hd)
        subst hd
        exact ⟨w0, hw0, hraw⟩
      | 3, hd => cases hd
      | i + 4, hd => simp at hd⟩
    exact (b_ret (ed_call (sp := spF (fun _ : L => True) (fun p => [dRaw K p]) (fun p => dLot K p)) (E := C8.E0) (callP (p + q) trivial) (ea_cons (ed_var (i := 2) rfl) ea_nil))) D σ' _ sl fun v H3 e3 hv => fin v H3 (sE.trans e3) hv
end
end K65

/-! K65LE: products of lots -/
namespace K65
open PySem PySem.Spec PyProof.Rows L2
/-! ### plain -/
theorem lot_len_in {t : Tm} {p : L} (h : LotOk t p) {a b : Int} (w : In a b p) (hab : a ≤ b) : (t.length : Int) ≤ b - a := by
  have key : ∀ (n : Nat) (lo : Int) (l : List Int), l.Nodup → (∀ x ∈ l, lo ≤ x ∧ x < lo + n) → l.length ≤ n := by
    intro n
    induction n with
    | zero =>
      intro lo l nd h
      cases l with
      | nil => exact Nat.le_refl _
      | cons a l =>
        have := h a List.mem_cons_self
        omega
    | succ n ih =>
      intro lo l nd h
      by_cases hm : (lo + n) ∈ l
      · have := ih lo (l.erase (lo + n)) (nd.erase _) fun x hx => by
          have hx' := List.mem_of_mem_erase hx
          have hne : x ≠ lo + n := fun z => by
            rw [z] at hx
            exact (List.Nodup.not_mem_erase nd) hx
          have := h x hx'
          omega
        rw [List.length_erase_of_mem hm] at this
        omega
      · have := ih lo l nd fun x hx => by
          have hne : x ≠ lo + n := fun z => hm (z ▸ hx)
          have := h x hx
          omega
        omega
  have := key (b - a).toNat a (t.map fun x : Int × Rat => x.1) h.keys fun x hx => by
    obtain ⟨y, hy, rfl⟩ := List.mem_map.mp hx
    have hy2 := (h.mem (k := y.1) (q := y.2)).mp hy
    have := w y.1 (by rw [hy2.1]; exact hy2.2)
    omega
  rw [List.length_map] at this
  omega
theorem lot_len_w {t : Tm} {p : L} (h : LotOk t p) : t.length ≤ width p := by
  by_cases e : p = 0
  · rw [h.nil_iff.mpr e]
    exact Nat.zero_le _
  · obtain ⟨n, tn⟩ := exists_top e
    obtain ⟨m, bm⟩ := exists_bot e
    have := bm.le_top tn
    have := lot_len_in h (a := m) (b := n + 1) (fun k hk => by
      have := tn.2 k hk
      have := bm.2 k hk
      omega) (by omega)
    rw [width_eq tn bm]
    omega
/-- a beginning of a lot -/
theorem pre_co {t a b : Tm} {p : L} (h : LotOk t p) (e : t = a ++ b) (k : Int) : (ofT a).co k = p.co k ∨ (ofT a).co k = 0 := by
  have ka : KeysOk a := by
    have := h.keys
    unfold KeysOk at *
    rw [e, List.map_append] at this
    exact (List.nodup_append.mp this).1
  rw [co_lk ka]
  cases z : lk a k with
  | none => exact .inr rfl
  | some q => exact .inl ((h.mem.mp (by rw [e]; exact List.mem_append_left _ (lk_mem z))).1.symm)
theorem pre_hw {t a b : Tm} {p : L} (h : LotOk t p) (e : t = a ++ b) {m x : Nat} (hw : Hw m x p) : Hw m x (ofT a) := ⟨hw.1, fun k => by
  rcases pre_co h e k with z | z
  · rw [z]
    exact hw.2 k
  · rw [z]
    exact ⟨0, by grind, Nat.zero_le _⟩⟩
theorem pre_width {t a b : Tm} {p : L} (h : LotOk t p) (e : t = a ++ b) : width (ofT a) ≤ width p := by
  by_cases z : ofT a = 0
  · rw [z, width_zero]
    exact Nat.zero_le _
  · obtain ⟨n, tn⟩ := exists_top z
    obtain ⟨m, bm⟩ := exists_bot z
    have hp : ∀ k, (ofT a).co k ≠ 0 → p.co k ≠ 0 := fun k hk => by
      rcases pre_co h e k with y | y
      · rw [← y]
        exact hk
      · exact absurd y hk
    have pne : p ≠ 0 := fun y => hp n tn.1 (by rw [y, co_zero])
    obtain ⟨n', tn'⟩ := exists_top pne
    obtain ⟨m', bm'⟩ := exists_bot pne
    have := tn'.2 n (hp n tn.1)
    have := bm'.2 m (hp m bm.1)
    rw [width_eq tn bm, width_eq tn' bm']
    omega
theorem accL_times (x : Int × Rat) : ∀ (t : Tm) (P : L), accL P (fun k => x.1 + k) (fun v => x.2 * v) t = P + mono x.1 x.2 * ofT t
  | [], P => by show P = P + mono x.1 x.2 * 0; grind
  | y :: t, P => by
    show accL (P + mono (x.1 + y.1) (x.2 * y.2)) (fun k => x.1 + k) (fun v => x.2 * v) t = _
    rw [accL_times x t, ofT_cons, ← mono_mul]
    grind
/-- what a product of lots asks -/
structure TmOk (p q : L) : Prop where
  pr : PrOk p q
  wm : width p * width q ≤ 1000
section
variable {P : Program} {w : World} {mg : Str → Option Value} {base : Heap} {K : PySem.W.Frag}
theorem fn_ok2 {α : Type} {pre : α → Prop} {dl : α → List DP} {d : α → DP} {x : Str} {i : Nat} {ps N : List Str} {k : Nat} (F : FnF K mg x i ps) (S : FnScope N ps (C8.fnScope (topS i))) (hl : ∀ a, (dl a).length = ps.length)
    (body : FnScope N ps (C8.fnScope (topS i)) → ∀ (cdv : Value) (A : Around) (outer : List Env) (s : Shared) (H : Hp) (E : XK) (f : Addr), Room k (A.deeper (envOfC x (C8.fnScope (topS i)) s.heap.objs.size f cdv)) → ∀ (vs : List V) (a : α), pre a → AllIs (dl a) vs H →
      ∃ t, PSs (cxOf C8.CX0 P w K mg base N x (C8.fnScope (topS i)) f cdv A outer s H E).nox (C8.fnBody (topS i)) t ∧ ∀ D : Ends, (∀ v H', Same H H' → (d a).is v H' → D.rt v H') → t D (L2.start N vs) H) : C8.Cal P w K mg base (k + 1) x (spF pre dl d) [] := by
  obtain ⟨f, fd, D, b⟩ := F.ex
  refine C8.cal0 D b .nil S (fun vs H Q E h => ?_) (fun cdv A outer s H vs Q E hr h => ?_)
  · obtain ⟨a, _, h1, _⟩ := h
    rw [h1.length, hl]
  · obtain ⟨a, hp, ha, q⟩ := h
    obtain ⟨t, h1, h2⟩ := body S cdv A outer s H E f hr vs a hp ha
    exact ⟨t, h1, h2 _ q⟩
theorem four {σ : L2.St} {H : Hp} {d0 d1 d2 d3 d4 : Option DP} (hl : σ.length = 5) (h0 : ∀ d, d0 = some d → ∃ v, σ[0]? = some (some v) ∧ d.is v H) (h1 : ∀ d, d1 = some d → ∃ v, σ[1]? = some (some v) ∧ d.is v H) (h2 : ∀ d, d2 = some d → ∃ v, σ[2]? = some (some v) ∧ d.is v H)
    (h3 : ∀ d, d3 = some d → ∃ v, σ[3]? = some (some v) ∧ d.is v H) (h4 : ∀ d, d4 = some d → ∃ v, σ[4]? = some (some v) ∧ d.is v H) : Sl σ [d0, d1, d2, d3, d4] H := ⟨hl, fun i d hd => by
  match i, hd with
  | 0, hd => exact h0 d (Option.some.inj hd)
  | 1, hd => exact h1 d (Option.some.inj hd)
  | 2, hd => exact h2 d (Option.some.inj hd)
  | 3, hd => exact h3 d (Option.some.inj hd)
  | 4, hd => exact h4 d (Option.some.inj hd)
  | i + 5, hd => simp at hd⟩
variable (F : Facts K mg)
include F
theorem c__law_times : C8.Cal P w K mg base 4 "_law_times" (spF (fun q : L × L => TmOk q.1 q.2) (fun q => [dLot K q.1, dLot K q.2]) (fun q => dLot K (q.1 * q.2))) [] := by
  have c_law_cleared := c__law_cleared (P := P) (w := w) (base := base) F
  have c_law_sum := c__law_sum (P := P) (w := w) (base := base) F
  have c_law_product := c__law_product (P := P) (w := w) (base := base) F
  refine fn_ok2 F.f__law_times (N := ["_law_one", "_law_two_here", "_law_found", "_law_j", "_law_k"]) (C8.fnScope_by (by decide +kernel)) (fun _ => rfl) fun sc cdv A outer s H E f hr vs q hq ha => ?_
  obtain ⟨p, q⟩ := q
  replace hq : TmOk p q := hq
  obtain ⟨⟨wp, wq, hd', he', hd2', hf', wd, hp, hqq, hwd, hdd, hef⟩, wm⟩ := hq
  obtain ⟨lam, l1, l2⟩ := hp
  obtain ⟨mu, u1, u2⟩ := hqq
  cases ha with
  | @cons _ _ v1 _ _ a1 r1 => cases r1 with
    | @cons _ _ v2 _ _ a2 r2 =>
      cases r2
      obtain ⟨t1, ok1, d1, kvs1, rfl, hd1, hk1⟩ := a1
      obtain ⟨t2, ok2, d2, kvs2, rfl, hd2, hk2⟩ := a2
      replace ok1 : LotOk t1 p := ok1
      replace ok2 : LotOk t2 q := ok2
      have hl1 := lot_len_w ok1
      have hl2 := lot_len_w ok2
      have hll : lam * mu ≤ 2 ^ 6500 := Nat.le_trans (pow_mul_le l1 u1) (Nat.pow_le_pow_right (by decide) hdd)
      -- every partial sum is small
      have hsum : ∀ (a1 b1 : Tm) (x : Int × Rat), t1 = a1 ++ x :: b1 → ∀ a2 b2, t2 = a2 ++ b2 → SmL (ofT a1 * q + mono x.1 x.2 * ofT a2) := fun a1 b1 x e1 a2 b2 e2 => by
        have h1 := (pre_hw ok1 e1 l2).prod u2 (w := wd) (Nat.le_trans (pre_width ok1 e1) hwd)
        have hm : Hw lam he' (mono x.1 x.2) := by
          have := ok1.mem.mp (show (x.1, x.2) ∈ t1 by rw [e1]; simp)
          rw [← this.1]
          obtain ⟨z, z1, z2⟩ := l2.2 x.1
          exact hw_mono l2.1 z1 z2
        have h2 := hm.prod (pre_hw ok2 e2 u2) (w := 0) width_mono
        exact (h1.add (h2.mono (by omega))).sm hll (Nat.le_refl _) hef
      have hmul : ∀ x ∈ t1, ∀ y ∈ t2, Sm x.2 ∧ Sm y.2 ∧ Sm (x.2 * y.2) := fun x hx y hy => by
        have e1 := ok1.mem.mp (show (x.1, x.2) ∈ t1 from hx)
        have e2 := ok2.mem.mp (show (y.1, y.2) ∈ t2 from hy)
        have sp : SmL p := l2.sm (Nat.le_trans l1 (Nat.pow_le_pow_right (by decide) (by omega))) (Nat.le_refl _) (by omega)
        have sq : SmL q := u2.sm (Nat.le_trans u1 (Nat.pow_le_pow_right (by decide) (by omega))) (Nat.le_refl _) (by omega)
        refine ⟨e1.1 ▸ sp _, e2.1 ▸ sq _, ?_⟩
        have hm : Hw lam he' (mono 0 x.2) := by
          obtain ⟨z, z1, z2⟩ := l2.2 x.1
          exact hw_mono l2.1 (by rw [← e1.1]; exact z1) z2
        have := (hm.prod u2 (w := 0) width_mono).sm hll (Nat.le_refl _) (by omega) y.1
        rw [co_mono_mul, Int.sub_zero, e2.1] at this
        exact this
      -- one turn of the outer loop
      have turn : ∀ (Ein : XK) (D1 : DP) (H : Hp) (Fa : Addr) (inner : TS), (∀ (a1 b1 : Tm) (x : Int × Rat), t1 = a1 ++ x :: b1 → ∀ (D : Ends) (σ : L2.St) (H : Hp) (fj : Tm), KeysOk fj → ofT fj = ofT a1 * q → fj.length ≤ a1.length * t2.length →
            Sl σ [some (dLZ K d1 t1), some D1, some (dLA K Fa fj), some (dV (.int x.1)), none] H →
            (∀ σ' H' fj', FCh Fa H H' → KeysOk fj' → ofT fj' = ofT a1 * q + mono x.1 x.2 * q → fj'.length ≤ a1.length * t2.length + t2.length → Sl σ' [some (dLZ K d1 t1), some D1, some (dLA K Fa fj'), none, none] H' → D.nx σ' H') → inner D σ H) →
          ∀ (D : Ends) (σ : L2.St) (H : Hp), Sl σ [some (dLZ K d1 t1), some D1, some (dLA K Fa []), none, none] H →
            (∀ σ' H' ft, FCh Fa H H' → KeysOk ft → ofT ft = p * q → ft.length ≤ 1000 → Sl σ' [some (dLZ K d1 t1), some D1, some (dLA K Fa ft), none, none] H' → D.nx σ' H') →
            tFor (iKeys (tVar 0)) (gName 3) inner D σ H := by
        intro Ein D1 _ Fa inner hin D σ H s q'
        obtain ⟨v, hv1, rfl, od, kvs, hfz, hlz⟩ := s.at' 0 _ rfl
        have hFH : ∃ fks, H Fa = some (.dK fks) := by
          obtain ⟨w0, _, _, fks, h, _⟩ := s.at' 2 (dLA K Fa []) rfl
          exact ⟨fks, h⟩
        have hd1F : d1 ≠ Fa := fun z => by
          subst z
          obtain ⟨fks, h⟩ := hFH
          rw [h] at hfz
          cases hfz
        refine ⟨.ref d1, hv1, d1, od, rfl, .inl ⟨kvs, hfz, ?_⟩⟩
        have hlen : kvs.length = t1.length := hlz.length
        refine for_it (walk_keys (d := d1) (o := od) (kvs := kvs)) (fun j σ2 H2 => FCh Fa H H2 ∧ ∃ fj, KeysOk fj ∧ ofT fj = ofT (t1.take j) * q ∧ fj.length ≤ j * t2.length ∧ Sl σ2 [some (dLZ K d1 t1), some D1, some (dLA K Fa fj), none, none] H2)
          ⟨⟨hFH, fun b o _ h => h⟩, [], List.nodup_nil, by show (0 : L) = 0 * q; grind, by simp, s⟩ (fun j σ2 H2 _ hpv => hpv.1.rest _ _ hd1F hfz) (fun j x σ2 H2 H3 hj hpv hy => ?_) (fun σ2 H2 hpv => ?_)
        · obtain ⟨rfl, k, w0, hx, rfl⟩ := hy
          obtain ⟨c, fj, hfj, efj, nfj, sj⟩ := hpv
          have hj' : j < t1.length := by omega
          have ek : k = Sum.inl (t1[j]).1 := by
            have hgen : ∀ {kvs : List (Key × V)} {tm : Tm} {j : Nat} {k : Key} {w0 : V} (h : j < tm.length), Paired (fun (kv : Key × V) (x : Int × Rat) => kv.1 = Sum.inl x.1 ∧ Dp K H kv.2 (ratD x.2)) kvs tm → kvs[j]? = some (k, w0) → k = Sum.inl (tm[j]).1 := by
              intro kvs tm j k w0 h hp
              induction hp generalizing j with
              | nil => simp at h
              | @cons kv x kvs tm a _ ih =>
                intro h'
                cases j with
                | zero =>
                  have h' : kv = (k, w0) := Option.some.inj h'
                  have := a.1
                  rw [h'] at this
                  exact this
                | succ j =>
                  have := ih (j := j) (by simpa using h) (by simpa using h')
                  simpa using this
            exact hgen hj' hlz hx
          subst ek
          generalize hxj : t1[j] = x at *
          have tkj : t1.take (j + 1) = t1.take j ++ [x] := by rw [List.take_add_one, List.getElem?_eq_getElem hj', hxj]; rfl
          have e1 : t1 = t1.take j ++ x :: t1.drop (j + 1) := by
            conv => lhs; rw [← List.take_append_drop (j + 1) t1, tkj]
            rw [List.append_assoc]
            rfl
          have hlj : (t1.take j).length = j := by rw [List.length_take]; omega
          refine hin _ _ x e1 _ _ _ fj hfj efj (by rw [hlj]; exact nfj) (sj.set 3 rfl) fun σ' H' fj' c' hfj' efj' nfj' s' => ⟨⟨hFH, fun b o ne h => c'.rest _ _ ne (c.rest _ _ ne h)⟩, fj', hfj', ?_, ?_, s'⟩
          · rw [efj', tkj, ofT_app]
            have : ofT [x] = mono x.1 x.2 := by
              rw [ofT_cons]
              show mono x.1 x.2 + 0 = _
              grind
            rw [this]
            grind
          · rw [hlj] at nfj'
            rw [Nat.succ_mul]
            exact nfj'
        · obtain ⟨c, fj, hfj, efj, nfj, sj⟩ := hpv
          rw [hlen, List.take_length, ok1.eq] at efj
          refine q' σ2 H2 fj c hfj efj (Nat.le_trans nfj ?_) sj
          rw [hlen]
          exact Nat.le_trans (Nat.mul_le_mul hl1 hl2) wm
      -- what the inner loop does
      have inn : ∀ (Ein Ein2 : XK) (Fa : Addr) (a1 b1 : Tm) (x : Int × Rat), t1 = a1 ++ x :: b1 → ∀ (D : Ends) (σ : L2.St) (H : Hp) (fj : Tm), KeysOk fj → ofT fj = ofT a1 * q → fj.length ≤ a1.length * t2.length →
            Sl σ [some (dLZ K d1 t1), some (dLZ K d2 t2), some (dLA K Fa fj), some (dV (.int x.1)), none] H →
            (∀ σ' H' fj', FCh Fa H H' → KeysOk fj' → ofT fj' = ofT a1 * q + mono x.1 x.2 * q → fj'.length ≤ a1.length * t2.length + t2.length → Sl σ' [some (dLZ K d1 t1), some (dLZ K d2 t2), some (dLA K Fa fj'), none, none] H' → D.nx σ' H') →
            tFor (iKeys (tVar 1)) (gName 4) (sDPut (tVar 2) (tOp (rI0 fun i j => .int (i + j)) (tVar 3) (tVar 4)) (tCall (spF (fun q : Rat × Rat => Sm q.1 ∧ Sm q.2) (fun q => [dD K (ratD q.1), dD K (ratD q.2)]) (fun q => dD K (ratD (q.1 + q.2)))) [] Ein
              (tCons (tDGet2 (tVar 2) (tOp (rI0 fun i j => .int (i + j)) (tVar 3) (tVar 4)) (tTup (tCons (tC (.int 0)) (tCons (tC (.int 1)) tNil)))) (tCons (tCall (spF (fun q : Rat × Rat => Sm q.1 ∧ Sm q.2) (fun q => [dD K (ratD q.1), dD K (ratD q.2)]) (fun q => dD K (ratD (q.1 * q.2)))) [] Ein2 (tCons (tDGet (tVar 0) (tVar 3)) (tCons (tDGet (tVar 1) (tVar 4)) tNil))) tNil)))) D σ H := by
        intro Ein Ein2 Fa a1 b1 x e1 D σ H fj hfj efj nfj s q'
        have hx : x ∈ t1 := by rw [e1]; simp
        refine acc_loop (base := [some (dLZ K d1 t1), some (dLZ K d2 t2), none, some (dV (.int x.1)), none]) (iF := 2) (i2 := 1) (ik := 4) (F := Fa) (d2 := d2) (t2 := t2) (key := fun k => x.1 + k) (val := fun v => x.2 * v) (p := ofT a1 * q) (n := a1.length * t2.length) rfl rfl (by decide) rfl (.some okF_LZ (.some okF_LZ (.none (.some (okF_dky dky_V) (.none .nil)))))
          (fun y hy ft => ed_op op_I0 (ed_var rfl) (ed_var rfl)) (fun y hy ft => ?_) (fun y hy => (hmul x hx y hy).2.2) (fun a2 y b2 e2 => ?_) ?_ _ σ H fj hfj efj nfj s (fun σ' H' ft' c h1 h2 h3 h4 => q' σ' H' ft' c h1 ?_ h3 (h4.fgt ?_))
        · obtain ⟨s1, s2, _⟩ := hmul x hx y hy
          exact ed_call (callP (x.2, y.2) ⟨s1, s2⟩) (ea_cons (ed_dget ((ed_var rfl).imp imp_LZ) (ed_var rfl) (lk_of_mem ok1.keys hx)) (ea_cons (ed_dget ((ed_var rfl).imp imp_LZ) (ed_var rfl) (lk_of_mem ok2.keys hy)) ea_nil))
        · rw [accL_times]
          exact hsum _ _ x e1 a2 _ e2 _
        · have h0 : a1.length + 1 ≤ t1.length := by rw [e1]; simp
          have := Nat.mul_le_mul (Nat.le_trans h0 hl1) hl2
          rw [Nat.succ_mul] at this
          omega
        · rw [h2, accL_times, ok2.eq]
        · exact fgt_keep (fgt_keep (fgt_keep (fgt_drop (fgt_drop fgt_nil))))
      -- what stands behind it all
      have fin : ∀ (Ein : XK) (D : Ends) (σ : L2.St) (H0 H' : Hp) (Fa : Addr) (ft : Tm), (∀ v H', Same H0 H' → (dLot K (p * q)).is v H' → D.rt v H') → Same H0 H' → KeysOk ft → ofT ft = p * q → ft.length ≤ 1000 → σ.length = 5 → (∃ v, σ[2]? = some (some v) ∧ (dLA K Fa ft).is v H') →
          tRet (tCall (spF (fun _ : L => True) (fun p => [dRaw K p]) (fun p => dLot K p)) [] Ein (tCons (tVar 2) tNil)) D σ H' := fun Ein D σ H0 H' Fa ft q' e hft eft nft hl hv => by
        obtain ⟨v, hv1, hv2⟩ := hv
        have sl : Sl σ [none, none, some (dRaw K (p * q)), none, none] H' := four hl (fun _ h => nomatch h) (fun _ h => nomatch h) (fun d h => by
          have h := Option.some.inj h
          subst h
          exact ⟨v, hv1, ft, ⟨hft, nft, eft⟩, imp_LA _ _ hv2⟩) (fun _ h => nomatch h) (fun _ h => nomatch h)
        exact (b_ret (ed_call (E := Ein) (callP (p * q) trivial) (ea_cons (ed_var (i := 2) rfl) ea_nil))) D σ H' sl fun v H3 e3 hv => q' v H3 (e.trans e3) hv
      have st0 : Sl (L2.start ["_law_one", "_law_two_here", "_law_found", "_law_j", "_law_k"] [.ref d1, .ref d2]) [some (dLA K d1 t1), some (dLA K d2 t2), none, none, none] H :=
        four rfl (fun d h => by have h := Option.some.inj h; subst h; exact ⟨_, rfl, rfl, kvs1, hd1, hk1⟩) (fun d h => by have h := Option.some.inj h; subst h; exact ⟨_, rfl, rfl, kvs2, hd2, hk2⟩) (fun _ h => nomatch h) (fun _ h => nomatch h) (fun _ h => nomatch h)
      generalize hσ0 : L2.start ["_law_one", "_law_two_here", "_law_found", "_law_j", "_law_k"] [.ref d1, .ref d2] = σ0 at *
      by_cases hdd12 : d1 = d2
      · -- one and the same dict
        subst hdd12
        refine ⟨_, (pss_cons (ps_set (i := 2) sc.nd rfl (Or.inl rfl) pe_dnewK) (pss_cons (ps_lock (ps_for PassesOwn.never rfl (pi_keys (pv 0)) (pg_name (i := 3) sc.nd rfl (Or.inl rfl)) (pss_one (ps_for PassesOwn.never rfl (pi_keys (pv 1)) (pg_name (i := 4) sc.nd rfl (Or.inl rfl)) (pss_one (ps_dput (by have h := hr.un; show (A.deeper _).units + 1 < cLine; omega) (pv 2) (pe_op op_add (pv 3) (pv 4)) (C8.pe_c c_law_sum hr (by decide) (by rfl) (pa_cons (pe_dget2 (by have h := hr.un; show (A.deeper _).units + 1 < cLine; omega) (pv 2) (pe_op op_add (pv 3) (pv 4)) (pe_tup (pa_cons pe_int (pa_cons pe_int pa_nil))) ⟨rfl, rfl, rfl, rfl⟩) (pa_cons (C8.pe_c c_law_product hr (by decide) (by rfl) (pa_cons (pe_dget (by have h := hr.un; show (A.deeper _).units + 1 < cLine; omega) (pv 0) (pv 3) (fun _ _ => rfl)) (pa_cons (pe_dget (by have h := hr.un; show (A.deeper _).units + 1 < cLine; omega) (pv 1) (pv 4) (fun _ _ => rfl)) pa_nil))) pa_nil))) rfl)))))) (pss_one (ps_ret (C8.pe_c c_law_cleared hr (by decide) (by rfl) (pa_cons (pv 2) pa_nil)))))), fun D q' => ?_⟩
        intro Fa hFa
        obtain ⟨x1, hx1, rfl, _⟩ := st0.at' 0 _ rfl
        obtain ⟨x2, hx2, rfl, _⟩ := st0.at' 1 _ rfl
        have hlen : σ0.length = 5 := st0.len
        have e1 : Same H (upd H Fa (.dK [])) := same_new hFa
        have nF : d1 ≠ Fa := ne_of_none hd1 hFa
        have hd1' : (upd H Fa (.dK [])) d1 = some (.dK kvs1) := e1 _ _ hd1
        refine ⟨d1, .dK kvs1, hd1', trivial, fun od => ?_⟩
        have kd := frz_keepD (od := od) hd1'
        have kv12 : kvs1 = kvs2 := by
          rw [hd1] at hd2
          cases hd2
          rfl
        subst kv12
        have sl : Sl (σ0.set 2 (some (.ref Fa))) [some (dLZ K d1 t1), some (dLZ K d1 t2), some (dLA K Fa []), none, none] (upd (upd H Fa (.dK [])) d1 (.frz od (.dK kvs1))) := four (by rw [List.length_set, hlen])
          (fun d h => by have h := Option.some.inj h; subst h; exact ⟨_, by rw [List.getElem?_set, if_neg (by decide)]; exact hx1, rfl, od, kvs1, upd_same, (hk1.mono e1).keepD kd⟩)
          (fun d h => by have h := Option.some.inj h; subst h; exact ⟨_, by rw [List.getElem?_set, if_neg (by decide)]; exact hx2, rfl, od, kvs1, upd_same, (hk2.mono e1).keepD kd⟩)
          (fun d h => by have h := Option.some.inj h; subst h; exact ⟨_, by rw [List.getElem?_set, if_pos rfl, if_pos (by omega)], rfl, [], by rw [upd_ne nF.symm]; exact upd_same, .nil⟩) (fun _ h => nomatch h) (fun _ h => nomatch h)
        refine turn C8.E0 (dLZ K d1 t2) H Fa _ (fun a1 b1 x e D σ H fj g1 g2 g3 g4 g5 => inn C8.E0 C8.E0 Fa a1 b1 x e D σ H fj g1 g2 g3 g4 g5) _ _ _ sl fun σ' H' ft c hft eft nft s' => ?_
        have hfz : H' d1 = some (.frz od (.dK kvs1)) := c.rest _ _ nF upd_same
        refine ⟨hfz, fin C8.E0 D σ' H _ Fa ft q' (fun b o hb => ?_) hft eft nft s'.len ?_⟩
        · by_cases z : b = d1
          · subst z
            rw [hd1] at hb
            have hb := Option.some.inj hb
            subst hb
            exact upd_same
          · rw [upd_ne z]
            exact c.rest _ _ (ne_of_none hb hFa) (by rw [upd_ne z]; exact e1 _ _ hb)
        · obtain ⟨w0, hw0, hLA⟩ := s'.at' 2 (dLA K Fa ft) rfl
          exact ⟨w0, hw0, upd_frz_LA nF.symm (unf_keepD hfz) hLA⟩
      · refine ⟨_, (pss_cons (ps_set (i := 2) sc.nd rfl (Or.inl rfl) pe_dnewK) (pss_cons (ps_lock (ps_for PassesOwn.never rfl (pi_keys (pv 0)) (pg_name (i := 3) sc.nd rfl (Or.inl rfl)) (pss_one (ps_lock (ps_for PassesOwn.never rfl (pi_keys (pv 1)) (pg_name (i := 4) sc.nd rfl (Or.inl rfl)) (pss_one (ps_dput (by have h := hr.un; show (A.deeper _).units + 1 < cLine; omega) (pv 2) (pe_op op_add (pv 3) (pv 4)) (C8.pe_c c_law_sum hr (by decide) (by rfl) (pa_cons (pe_dget2 (by have h := hr.un; show (A.deeper _).units + 1 < cLine; omega) (pv 2) (pe_op op_add (pv 3) (pv 4)) (pe_tup (pa_cons pe_int (pa_cons pe_int pa_nil))) ⟨rfl, rfl, rfl, rfl⟩) (pa_cons (C8.pe_c c_law_product hr (by decide) (by rfl) (pa_cons (pe_dget (by have h := hr.un; show (A.deeper _).units + 1 < cLine; omega) (pv 0) (pv 3) (fun _ _ => rfl)) (pa_cons (pe_dget (by have h := hr.un; show (A.deeper _).units + 1 < cLine; omega) (pv 1) (pv 4) (fun _ _ => rfl)) pa_nil))) pa_nil))) rfl))))))) (pss_one (ps_ret (C8.pe_c c_law_cleared hr (by decide) (by rfl) (pa_cons (pv 2) pa_nil)))))), fun D q' => ?_⟩
        intro Fa hFa
        obtain ⟨x1, hx1, rfl, _⟩ := st0.at' 0 _ rfl
        obtain ⟨x2, hx2, rfl, _⟩ := st0.at' 1 _ rfl
        have hlen : σ0.length = 5 := st0.len
        have e1 : Same H (upd H Fa (.dK [])) := same_new hFa
        have nF : d1 ≠ Fa := ne_of_none hd1 hFa
        have nF2 : d2 ≠ Fa := ne_of_none hd2 hFa
        have hd1' : (upd H Fa (.dK [])) d1 = some (.dK kvs1) := e1 _ _ hd1
        refine ⟨d1, .dK kvs1, hd1', trivial, fun od => ?_⟩
        have kd := frz_keepD (od := od) hd1'
        have sl : Sl (σ0.set 2 (some (.ref Fa))) [some (dLZ K d1 t1), some (dLA K d2 t2), some (dLA K Fa []), none, none] (upd (upd H Fa (.dK [])) d1 (.frz od (.dK kvs1))) := four (by rw [List.length_set, hlen])
          (fun d h => by have h := Option.some.inj h; subst h; exact ⟨_, by rw [List.getElem?_set, if_neg (by decide)]; exact hx1, rfl, od, kvs1, upd_same, (hk1.mono e1).keepD kd⟩)
          (fun d h => by have h := Option.some.inj h; subst h; exact ⟨_, by rw [List.getElem?_set, if_neg (by decide)]; exact hx2, rfl, kvs2, by rw [upd_ne (fun z => hdd12 z.symm)]; exact e1 _ _ hd2, (hk2.mono e1).keepD kd⟩)
          (fun d h => by have h := Option.some.inj h; subst h; exact ⟨_, by rw [List.getElem?_set, if_pos rfl, if_pos (by omega)], rfl, [], by rw [upd_ne nF.symm]; exact upd_same, .nil⟩) (fun _ h => nomatch h) (fun _ h => nomatch h)
        refine turn C8.E0 (dLA K d2 t2) H Fa _ (fun a1 b1 x e D σ H fj g1 g2 g3 g4 g5 => ?_) _ _ _ sl fun σ' H' ft c hft eft nft s' => ?_
        · -- the second lock
          obtain ⟨y0, hy0, rfl, odz, kz, hz, hkz⟩ := g4.at' 0 _ rfl
          obtain ⟨y2, hy2, rfl, k2, hz2, hkz2⟩ := g4.at' 1 _ rfl
          obtain ⟨y3, hy3, rfl, k3, hz3, hkz3⟩ := g4.at' 2 (dLA K Fa fj) rfl
          obtain ⟨y4, hy4, hz4⟩ := g4.at' 3 _ rfl
          refine ⟨d2, .dK k2, hz2, trivial, fun od2 => ?_⟩
          have kd2 := frz_keepD (od := od2) hz2
          have sl2 : Sl σ [some (dLZ K d1 t1), some (dLZ K d2 t2), some (dLA K Fa fj), some (dV (.int x.1)), none] (upd H d2 (.frz od2 (.dK k2))) := four g4.len
            (fun d h => by have h := Option.some.inj h; subst h; exact ⟨_, hy0, rfl, odz, kz, by rw [upd_ne hdd12]; exact hz, hkz.keepD kd2⟩)
            (fun d h => by have h := Option.some.inj h; subst h; exact ⟨_, hy2, rfl, od2, k2, upd_same, hkz2.keepD kd2⟩)
            (fun d h => by have h := Option.some.inj h; subst h; exact ⟨_, hy3, rfl, k3, by rw [upd_ne nF2.symm]; exact hz3, hkz3.keepD kd2⟩)
            (fun d h => by have h := Option.some.inj h; subst h; exact ⟨_, hy4, hz4⟩) (fun _ h => nomatch h)
          refine inn C8.E0 C8.E0 Fa a1 b1 x e _ σ _ fj g1 g2 g3 sl2 fun σ' H' fj' c h1 h2 h3 s' => ?_
          have hfz : H' d2 = some (.frz od2 (.dK k2)) := c.rest _ _ nF2 upd_same
          have ku := unf_keepD hfz
          obtain ⟨z0, hz0, rfl, odw, kw, hw, hkw⟩ := s'.at' 0 _ rfl
          obtain ⟨z1, hz1, rfl, odw1, kw1, hw1, hkw1⟩ := s'.at' 1 _ rfl
          obtain ⟨z2, hz2', hLA⟩ := s'.at' 2 (dLA K Fa fj') rfl
          have ek : kw1 = k2 := by
            rw [hfz] at hw1
            cases hw1
            rfl
          subst ek
          refine ⟨hfz, g5 σ' _ fj' ⟨⟨k3, hz3⟩, fun b o ne hb => ?_⟩ h1 h2 h3 (four s'.len (fun d h => by have h := Option.some.inj h; subst h; exact ⟨_, hz0, rfl, odw, kw, by rw [upd_ne hdd12]; exact hw, hkw.keepD ku⟩)
            (fun d h => by have h := Option.some.inj h; subst h; exact ⟨_, hz1, rfl, kw1, upd_same, hkw1.keepD ku⟩)
            (fun d h => by have h := Option.some.inj h; subst h; exact ⟨_, hz2', upd_frz_LA nF2.symm ku hLA⟩) (fun _ h => nomatch h) (fun _ h => nomatch h))⟩
          by_cases z : b = d2
          · subst z
            rw [hz2] at hb
            have hb := Option.some.inj hb
            subst hb
            exact upd_same
          · rw [upd_ne z]
            exact c.rest _ _ ne (by rw [upd_ne z]; exact hb)
        · have hfz : H' d1 = some (.frz od (.dK kvs1)) := c.rest _ _ nF upd_same
          refine ⟨hfz, fin C8.E0 D σ' H _ Fa ft q' (fun b o hb => ?_) hft eft nft s'.len ?_⟩
          · by_cases z : b = d1
            · subst z
              rw [hd1] at hb
              have hb := Option.some.inj hb
              subst hb
              exact upd_same
            · rw [upd_ne z]
              exact c.rest _ _ (ne_of_none hb hFa) (by rw [upd_ne z]; exact e1 _ _ hb)
          · obtain ⟨w0, hw0, hLA⟩ := s'.at' 2 (dLA K Fa ft) rfl
            exact ⟨w0, hw0, upd_frz_LA nF.symm (unf_keepD hfz) hLA⟩
end
end K65

/-! K65LF: lots that are new; differences, parts, division -/
namespace K65
open PySem PySem.Spec PyProof.Rows L2
/-- .. the answer is a new thing -/
def spR {α : Type} (pre : α → Prop) (dl : α → List DP) (d : α → DP) : Sp := fun vs H Q _ => ∃ a, pre a ∧ AllIs (dl a) vs H ∧ ∀ v H' b, v = .ref b → Same H H' → H b = none → (d a).is v H' → Q v H'
def BdR (ts : TS) (ds : List (Option DP)) (d : DP) : Prop := ∀ (D : Ends) (σ : L2.St) (H : Hp), Sl σ ds H → (∀ v H' b, v = .ref b → Same H H' → H b = none → d.is v H' → D.rt v H') → ts D σ H
section
variable {P : Program} {w : World} {mg : Str → Option Value} {base : Heap} {K : PySem.W.Frag} {ds ds' ds1 : List (Option DP)} {te tl th : TE} {ta : TA} {tt : TT} {t u : TS} {d d1 d2 : DP} {dl : List DP} {tm : Tm}
theorem fn_okR {α : Type} {pre : α → Prop} {dl : α → List DP} {d : α → DP} {x : Str} {i : Nat} {ps N : List Str} {k : Nat} (F : FnF K mg x i ps) (S : FnScope N ps (C8.fnScope (topS i))) (hl : ∀ a, (dl a).length = ps.length)
    (body : FnScope N ps (C8.fnScope (topS i)) → ∀ (cdv : Value) (A : Around) (outer : List Env) (s : Shared) (H : Hp) (E : XK) (f : Addr), Room k (A.deeper (envOfC x (C8.fnScope (topS i)) s.heap.objs.size f cdv)) →
      ∃ t, PSs (cxOf C8.CX0 P w K mg base N x (C8.fnScope (topS i)) f cdv A outer s H E).nox (C8.fnBody (topS i)) t ∧ ∀ a, pre a → BdR t (slots N (dl a)) (d a)) : C8.Cal P w K mg base (k + 1) x (spR pre dl d) [] := by
  obtain ⟨f, fd, D, b⟩ := F.ex
  refine C8.cal0 D b .nil S (fun vs H Q E h => ?_) (fun cdv A outer s H vs Q E hr h => ?_)
  · obtain ⟨a, _, h1, _⟩ := h
    rw [h1.length, hl]
  · obtain ⟨t, h1, h2⟩ := body S cdv A outer s H E f hr
    refine ⟨t, h1, ?_⟩
    obtain ⟨a, hp, ha, q⟩ := h
    exact h2 a hp { nx := fun _ H' => Q .non H', rt := Q } _ H (sl_start ha) q
theorem r_open {i : Nat} {α : Type} {S : α → Prop} {D : α → DP} (h : ds[i]? = some (some (dEx S D))) (k : ∀ x, S x → BdR u (ds.set i (some (D x))) d) : BdR u ds d := fun Dn σ H s q => by
  obtain ⟨v, h1, x, hx, h2⟩ := s.at' i _ h
  refine k x hx Dn σ H ?_ q
  have := s.set i (v := v) h2
  have e : σ.set i (some v) = σ := by
    apply List.ext_getElem?
    intro j
    rw [List.getElem?_set]
    by_cases z : i = j
    · subst z
      rw [if_pos rfl, if_pos (List.getElem?_eq_some_iff.mp h1).1, h1]
    · rw [if_neg z]
  rw [e] at this
  exact this
theorem r_fr {i : Nat} (h : EvFr K te ds tm) (k : ∀ (D : Ends) (σ : L2.St) (H : Hp) (F : Addr) (H1 : Hp), Sl σ ds H → (∀ v H' b, v = .ref b → Same H H' → H b = none → d.is v H' → D.rt v H') → H F = none → Same H H1 → (dLA K F tm).is (.ref F) H1 → u D (σ.set i (some (.ref F))) H1) : BdR (tSeq (tAsg te (gName i)) u) ds d := fun D σ H s q =>
  h σ H s _ fun F H1 a b c => k D σ H F H1 s q a b c
theorem r_ret (h : EvFr K te ds tm) (i : DP.imp (dLotT K tm) d) : BdR (tRet te) ds d := fun D σ H s q => h σ H s _ fun F H1 a b c => q _ H1 F rfl b a (i _ _ (imp_LA _ _ c))
theorem r_call {α : Type} {pre : α → Prop} {dl : α → List DP} {d : α → DP} {E : XK} (a : α) (hp : pre a) (h : EvA ta ds (dl a)) : BdR (tRet (tCall (spR pre dl d) [] E ta)) ds (d a) := fun D σ H s q =>
  h σ H s _ fun vs H1 e1 hvs => by
    show spR pre dl d (vs ++ []) H1 D.rt E
    rw [List.append_nil]
    exact ⟨a, hp, hvs, fun v H' b e e2 hb hv => q v H' b e (e1.trans e2) (none_back e1 hb) hv⟩
/-- .. told less -/
theorem cal_less {α : Type} {pre : α → Prop} {dl : α → List DP} {d : α → DP} {k : Nat} {x : Str} (c : C8.Cal P w K mg base k x (spR pre dl d) []) : C8.Cal P w K mg base k x (spF pre dl d) [] := by
  obtain ⟨f, fd, ps, us, F, h1, h2, h3, h4⟩ := c.ex
  refine ⟨f, fd, ps, us, F.imp fun vs H Q E h => ?_, h1, h2, h3, h4⟩
  obtain ⟨a, hp, ha, q⟩ := h
  exact ⟨a, hp, ha, fun v H' b _ e _ hv => q v H' e hv⟩
theorem callR {α : Type} {pre : α → Prop} {dl : α → List DP} {d : α → DP} (a : α) (h : pre a) : CallP (spR pre dl d) (dl a) (d a) := fun vs H hv Q E q => ⟨a, h, hv, fun v H' b _ e _ hv => q v H' e hv⟩
theorem ed_disp1 {tk tv : TE} {k : Int} {q : Rat} (h1 : EvD tk ds (dV (.int k))) (h2 : EvD tv ds (dD K (ratD q))) : EvD (tDisp [(tk, tv)]) ds (dLotT K [(k, q)]) := fun σ H s Q qq p hp => by
  have e0 : Same H (upd H p (.dK [])) := same_new hp
  refine h1 σ _ (s.mono e0) _ fun x H1 e1 hx => h2 σ H1 ((s.mono e0).mono e1) _ fun y H2 e2 hy => ?_
  cases hx
  have hpd : H2 p = some (.dK []) := e2 _ _ (e1 _ _ upd_same)
  refine ⟨hpd, [(Sum.inl k, y)], rfl, by simp, ?_⟩
  have kd : KeepD H2 (upd H2 p (.dK (mergeK [] [(Sum.inl k, y)]))) := fun b o hb n1 n2 => by
    by_cases z : b = p
    · subst z
      rw [hpd] at hb
      exact absurd (Option.some.inj hb).symm (n1 [])
    · rw [upd_ne z]
      exact hb
  refine qq _ _ (fun b o hb => ?_) ⟨p, _, rfl, upd_same, .cons ⟨rfl, dp_keepD kd _ _ hy⟩ .nil⟩
  rw [upd_ne (ne_of_none hb hp)]
  exact e2 _ _ (e1 _ _ (e0 _ _ hb))
theorem lot_one {k : Int} {q : Rat} (h : q ≠ 0) : LotOk [(k, q)] (mono k q) := ⟨by unfold KeysOk; simp, fun x hx => by
  have := List.mem_singleton.mp hx
  rw [this]
  exact h, by rw [ofT_cons]; show mono k q + 0 = _; grind⟩
variable (F : Facts K mg)
include F
theorem c__law_cleared_r : C8.Cal P w K mg base 1 "_law_cleared" (spR (fun _ : L => True) (fun p => [dRaw K p]) (fun p => dLot K p)) [] := by
  have mdict := F.m_dict
  refine fn_okR F.f__law_cleared (N := ["_law_lot_here", "_law_k"]) (C8.fnScope_by (by decide +kernel)) (fun _ => rfl) fun sc cdv A outer s H E f hr => ⟨_, (pss_one (ps_ret (pe_callTy (call_dictP rfl) (by rfl) mdict (by decide +kernel) (pa_cons (pe_lock (pe_lc (own := [("_law_k", 1)]) rfl sc.nd (pi_keys (pv 0)) (blkOk_by (by change blkC ["_law_lot_here", "_law_k"] (C8.fnScope (topS 68)) _ _ = true; decide +kernel)) (fun _ _ _ _ _ => (pg_name (i := 1) sc.nd rfl (by first | exact Or.inl rfl | exact Or.inr rfl))) (fun _ _ _ _ _ => (pts_one (pt_cmpR op_ne (pe_ix (r := rIxT K) ix_tup (pe_dget (by have h := hr.un; show (A.deeper _).units + 1 < cLine; omega) (pv 0) (pv 1) (fun _ _ => rfl)) pe_int (fun _ _ => rfl)) pe_int (nomark _)))) (fun _ _ _ _ _ => (pe_tup (pa_cons (pv 1) (pa_cons (pe_dget (by have h := hr.un; show (A.deeper _).units + 1 < cLine; omega) (pv 0) (pv 1) (fun _ _ => rfl)) pa_nil)))))) pa_nil)))), fun q hq => ?_⟩
  refine r_open (i := 0) rfl fun tm htm => ?_
  obtain ⟨hk, hl, rfl⟩ := htm
  refine r_ret (tm := tm.filter fun x => decide (x.2 ≠ 0)) (fr_dict (keys_filter _ hk) (ed_keys (il := 0) (i := 1) (tm := tm) (p := fun x => decide (x.2 ≠ 0)) (f := itemD K) rfl (lkOk_lot (lkB_none lkB_nil)) hl (by simp) (fun x hx => ?_) (fun x hx _ => ed_item (ed_var rfl) (ed_dget (ed_var rfl) (ed_var rfl) (lk_of_mem hk hx))) (fun x _ _ => ⟨item_stiff, item_dky⟩))) (imp_lot (lot_clear hk))
  rw [← dec_num']
  exact eb_test (ed_op (op_neV (by rfl)) (ed_num (ed_dget (ed_var rfl) (ed_var rfl) (lk_of_mem hk hx))) ed_v)
theorem c__law_plus_r : C8.Cal P w K mg base 4 "_law_plus" (spR (fun q : L × L => SmL q.1 ∧ SmL q.2 ∧ W 200 q.1 ∧ W 200 q.2) (fun q => [dLot K q.1, dLot K q.2]) (fun q => dLot K (q.1 + q.2))) [] := by
  have mdict := F.m_dict
  have c_law_cleared := c__law_cleared_r (P := P) (w := w) (base := base) F
  have c_law_sum := c__law_sum (P := P) (w := w) (base := base) F
  refine fn_okR F.f__law_plus (N := ["_law_one", "_law_two_here", "_law_found", "_law_k"]) (C8.fnScope_by (by decide +kernel)) (fun _ => rfl) fun sc cdv A outer s H E f hr => ⟨_, (pss_cons (ps_set (i := 2) sc.nd rfl (Or.inl rfl) (pe_callTy (call_dictP rfl) (by rfl) mdict (by decide +kernel) (pa_cons (pe_lock (pe_lc (own := [("_law_k", 3)]) rfl sc.nd (pi_keys (pv 0)) (blkOk_by (by change blkC ["_law_one", "_law_two_here", "_law_found", "_law_k"] (C8.fnScope (topS 70)) _ _ = true; decide +kernel)) (fun _ _ _ _ _ => (pg_name (i := 3) sc.nd rfl (by first | exact Or.inl rfl | exact Or.inr rfl))) (fun _ _ _ _ _ => pts_nil) (fun _ _ _ _ _ => (pe_tup (pa_cons (pv 3) (pa_cons (pe_dget (by have h := hr.un; show (A.deeper _).units + 1 < cLine; omega) (pv 0) (pv 3) (fun _ _ => rfl)) pa_nil)))))) pa_nil))) (pss_cons (ps_lock (ps_for PassesOwn.never rfl (pi_keys (pv 1)) (pg_name (i := 3) sc.nd rfl (Or.inl rfl)) (pss_one (ps_dput (by have h := hr.un; show (A.deeper _).units + 1 < cLine; omega) (pv 2) (pv 3) (C8.pe_c c_law_sum hr (by decide) (by rfl) (pa_cons (pe_dget2 (by have h := hr.un; show (A.deeper _).units + 1 < cLine; omega) (pv 2) (pv 3) (pe_tup (pa_cons pe_int (pa_cons pe_int pa_nil))) ⟨rfl, rfl, rfl, rfl⟩) (pa_cons (pe_dget (by have h := hr.un; show (A.deeper _).units + 1 < cLine; omega) (pv 1) (pv 3) (fun _ _ => rfl)) pa_nil))) rfl)))) (pss_one (ps_ret (C8.pe_c c_law_cleared hr (by decide) (by rfl) (pa_cons (pv 2) pa_nil)))))), fun q hq => ?_⟩
  obtain ⟨p, q⟩ := q
  obtain ⟨sp, sq, wp, wq⟩ := hq
  refine r_open (i := 0) rfl fun t1 ok1 => r_open (i := 1) rfl fun t2 ok2 => ?_
  have hl1 := lot_len ok1 wp (by omega)
  have hl2 := lot_len ok2 wq (by omega)
  have cp := fr_dict (K := K) (tm := t1) ok1.keys (tl := tLockE (tLc (iKeys (tVar 0)) (gName 3) tYes (tTup (tCons (tVar 3) (tCons (tDGet (tVar 0) (tVar 3)) tNil))) [3])) (ds := [some (dLotT K t1), some (dLotT K t2), none, none]) (by
    have := ed_keys (K := K) (te := tTup (tCons (tVar 3) (tCons (tDGet (tVar 0) (tVar 3)) tNil))) (tt := tYes) (ds := [some (dLotT K t1), some (dLotT K t2), none, none]) (il := 0) (i := 3) (tm := t1) (vs := [3]) (p := fun _ => true) (f := itemD K) (dsR := [some (dLotR K t1), none, none, none]) rfl (lkOk_lot (lkB_none (lkB_none (lkB_none lkB_nil)))) (by omega) (by simp) (fun x hx => eb_yes) (fun x hx _ => ed_item (ed_var rfl) (ed_dget (ed_var rfl) (ed_var rfl) (lk_of_mem ok1.keys hx))) (fun x _ _ => ⟨item_stiff, item_dky⟩)
    rw [filter_true] at this
    exact this)
  refine r_fr cp fun D σ H Fa H1 s fin hFa e1 hLA => ?_
  obtain ⟨v2, hv2, d2, kvs2, rfl, hd2, hk2⟩ := s.at' 1 (dLotT K t2) rfl
  have nd2 : d2 ≠ Fa := ne_of_none hd2 hFa
  have hd21 : H1 d2 = some (.dK kvs2) := e1 _ _ hd2
  have len : σ.length = 4 := s.len
  refine ⟨d2, .dK kvs2, hd21, trivial, fun od => ?_⟩
  have kd := frz_keepD (od := od) hd21
  have hsm : ∀ a x b, t2 = a ++ x :: b → Sm ((accL p id id a).co (id x.1)) := fun a x b e => by
    rw [accL_plus, co_add]
    have ka : KeysOk a := by
      have := ok2.keys
      unfold KeysOk at *
      rw [e, List.map_append] at this
      exact (List.nodup_append.mp this).1
    have : (ofT a).co x.1 = 0 := by
      rw [co_lk ka, lk_none_of]
      · rfl
      · have := ok2.keys
        unfold KeysOk at this
        rw [e, List.map_append, List.nodup_append] at this
        intro hm
        exact this.2.2 x.1 hm x.1 (by simp) rfl
    show Sm (p.co x.1 + (ofT a).co x.1)
    rw [this, show p.co x.1 + 0 = p.co x.1 by grind]
    exact sp _
  refine acc_loop (base := [none, some (dLZ K d2 t2), none, none]) (iF := 2) (i2 := 1) (ik := 3) (F := Fa) (d2 := d2) (t2 := t2) (key := id) (val := id) (p := p) (n := 450) rfl rfl (by decide) rfl (.none (.some okF_LZ (.none (.none .nil)))) (fun x hx ft => ed_var rfl) (fun x hx ft => ed_dget ((ed_var rfl).imp imp_LZ) (ed_var rfl) (lk_of_mem ok2.keys hx)) (fun x hx => ?_) hsm (by omega) _ (σ.set 2 (some (.ref Fa))) _ t1 ok1.keys ok1.eq (by omega) ⟨by rw [List.length_set, len]; rfl, fun i dd hd => ?_⟩ (fun σ' H' ft' c hft' eft' nft' s' => ?_)
  · have hm := ok2.mem.mp (show (x.1, x.2) ∈ t2 from hx)
    show Sm x.2
    rw [← hm.1]
    exact sq _
  · match i, hd with
    | 0, hd => cases hd
    | 1, hd =>
      have hd := Option.some.inj (Option.some.inj hd)
      subst hd
      exact ⟨.ref d2, by rw [List.getElem?_set, if_neg (by decide)]; exact hv2, rfl, od, kvs2, upd_same, (hk2.mono e1).keepD kd⟩
    | 2, hd =>
      have hd := Option.some.inj (Option.some.inj hd)
      subst hd
      exact ⟨.ref Fa, by rw [List.getElem?_set, if_pos rfl, if_pos (by omega)], upd_frz_LA nd2.symm kd hLA⟩
    | 3, hd => cases hd
    | i + 4, hd => simp at hd
  · have hfz : H' d2 = some (.frz od (.dK kvs2)) := c.rest _ _ nd2 upd_same
    refine ⟨hfz, ?_⟩
    have ku := unf_keepD hfz
    have sE : Same H (upd H' d2 (.dK kvs2)) := fun b o hb => by
      by_cases z : b = d2
      · subst z
        rw [hd2] at hb
        have hb := Option.some.inj hb
        subst hb
        exact upd_same
      · rw [upd_ne z]
        exact c.rest _ _ (ne_of_none hb hFa) (by rw [upd_ne z]; exact e1 _ _ hb)
    obtain ⟨w0, hw0, hLA'⟩ := s'.at' 2 (dLA K Fa ft') rfl
    have hraw : (dRaw K (p + q)).is w0 (upd H' d2 (.dK kvs2)) := ⟨ft', ⟨hft', by omega, by rw [eft', accL_plus, ok2.eq]⟩, imp_LA _ _ (upd_frz_LA nd2.symm ku hLA')⟩
    have sl : Sl σ' [none, none, some (dRaw K (p + q)), none] (upd H' d2 (.dK kvs2)) := ⟨s'.len, fun i dd hd => by
      match i, hd with
      | 0, hd => cases hd
      | 1, hd => cases hd
      | 2, hd =>
        have hd := Option.some.inj (Option.some.inj hd)
        subst hd
        exact ⟨w0, hw0, hraw⟩
      | 3, hd => cases hd
      | i + 4, hd => simp at hd⟩
    exact (r_call (E := C8.E0) (pre := fun _ : L => True) (dl := fun p => [dRaw K p]) (d := fun p => dLot K p) (p + q) trivial (ea_cons (ed_var (i := 2) rfl) ea_nil)) D σ' _ sl fun v H3 a hv e3 ha hv2 => fin v H3 a hv (sE.trans e3) (none_back sE ha) hv2
/-- differences -/
structure LsOk (p q : L) : Prop where
  sp : SmL p
  sq : SmL q
  wp : W 200 p
  wq : W 200 q
theorem c__law_less_r : C8.Cal P w K mg base 5 "_law_less" (spR (fun q : L × L => LsOk q.1 q.2) (fun q => [dLot K q.1, dLot K q.2]) (fun q => dLot K (q.1 - q.2))) [] := by
  have c_law_scaled := c__law_scaled (P := P) (w := w) (base := base) F
  have c_law_plus := c__law_plus_r (P := P) (w := w) (base := base) F
  refine fn_okR F.f__law_less (N := ["_law_one", "_law_two_here"]) (C8.fnScope_by (by decide +kernel)) (fun _ => rfl) fun sc cdv A outer s H E f hr => ⟨_, (pss_one (ps_ret (C8.pe_c c_law_plus hr (by decide) (by rfl) (pa_cons (pv 0) (pa_cons (C8.pe_c c_law_scaled hr (by decide) (by rfl) (pa_cons (pv 1) (pa_cons (pe_tup (pa_cons (pe_un un_neg pe_int) (pa_cons pe_int pa_nil))) pa_nil))) pa_nil))))), fun q hq => ?_⟩
  obtain ⟨p, q⟩ := q
  obtain ⟨sp, sq, wp, wq⟩ := hq
  replace wq : W 200 q := wq
  replace sq : SmL q := sq
  have e : ∀ k, (L.scale (-1) q).co k = - q.co k := fun k => by rw [co_scale]; grind
  have sm1 : Sm (-1) := ⟨by decide, by decide⟩
  have e2 : p - q = p + L.scale (-1) q := L.eq_of_co fun k => by rw [co_add, e, co_sub]; grind
  show BdR _ _ (dLot K (p - q))
  rw [e2]
  refine r_call (p, L.scale (-1) q) ⟨sp, fun k => ?_, wp, fun k hk => ?_⟩ (ea_cons (ed_var rfl) (ea_cons (ed_call (callP (q, -1) ⟨W.mono wq (by omega), sq, sm1⟩) (ea_cons (ed_var rfl) (ea_cons (ed_tup (xs := [.int (-1), .int 1]) (ea_cons ((un_neg_d ed_v).imp imp_int') (ea_cons (ed_v.imp imp_int') ea_nil)) (by simp)) ea_nil))) ea_nil))
  · show Sm ((L.scale (-1) q).co k)
    rw [e]
    exact sm_neg (sq k)
  · have hk : (L.scale (-1) q).co k ≠ 0 := hk
    rw [e] at hk
    exact wq k fun z => hk (by rw [z]; rfl)
theorem c__law_less : C8.Cal P w K mg base 5 "_law_less" (spF (fun q : L × L => LsOk q.1 q.2) (fun q => [dLot K q.1, dLot K q.2]) (fun q => dLot K (q.1 - q.2))) [] := cal_less (c__law_less_r F)
/-- .. by the channel -/
structure ChOk (f x : L) : Prop where
  t : TmOk f x
theorem w_prod {f x : L} (h : TmOk f x) : W 400 (f * x) := h.pr.wp.mul h.pr.wq
theorem c__law_channel : C8.Cal P w K mg base 5 "_law_channel" (spF (fun q : L × L => TmOk q.1 q.2) (fun q => [dLot K q.1, dLot K q.2]) (fun q => dLot K (chan q.1 q.2))) [] := by
  have c_law_part := c__law_part (P := P) (w := w) (base := base) F
  have c_law_times := c__law_times (P := P) (w := w) (base := base) F
  refine fn_ok F.f__law_channel (N := ["_law_filtering", "_law_lot_here"]) (C8.fnScope_by (by decide +kernel)) (fun _ => rfl) fun sc cdv A outer s H E f hr => ⟨_, (pss_one (ps_ret (C8.pe_c c_law_part hr (by decide) (by rfl) (pa_cons (C8.pe_c c_law_times hr (by decide) (by rfl) (pa_cons (pv 0) (pa_cons (pv 1) pa_nil))) (pa_cons pe_int pa_nil))))), fun q hq => ?_⟩
  exact b_ret (ed_call (callP (q.1 * q.2, (0 : Int)) ⟨w_prod F hq, .inl rfl⟩) (ea_cons (ed_call (callP q hq) (ea_cons (ed_var rfl) (ea_cons (ed_var rfl) ea_nil))) (ea_cons ed_v ea_nil)))
/-- .. of two rows -/
structure CrOk (a b : L) : Prop where
  wa : W 200 a
  wb : W 200 b
  t1 : TmOk (even a) (odd b)
  t2 : TmOk (odd a) (even b)
  l : LsOk (even a * odd b) (odd a * even b)
theorem c__law_crossed : C8.Cal P w K mg base 6 "_law_crossed" (spF (fun q : L × L => CrOk q.1 q.2) (fun q => [dLot K q.1, dLot K q.2]) (fun q => dLot K (even q.1 * odd q.2 - odd q.1 * even q.2))) [] := by
  have c_law_times := c__law_times (P := P) (w := w) (base := base) F
  have c_law_less := c__law_less (P := P) (w := w) (base := base) F
  have c_law_part := c__law_part (P := P) (w := w) (base := base) F
  refine fn_ok F.f__law_crossed (N := ["_law_one", "_law_two_here", "_law_ahead"]) (C8.fnScope_by (by decide +kernel)) (fun _ => rfl) fun sc cdv A outer s H E f hr => ⟨_, (pss_cons (ps_set (i := 2) sc.nd rfl (Or.inl rfl) (C8.pe_c c_law_times hr (by decide) (by rfl) (pa_cons (C8.pe_c c_law_part hr (by decide) (by rfl) (pa_cons (pv 0) (pa_cons pe_int pa_nil))) (pa_cons (C8.pe_c c_law_part hr (by decide) (by rfl) (pa_cons (pv 1) (pa_cons pe_int pa_nil))) pa_nil)))) (pss_one (ps_ret (C8.pe_c c_law_less hr (by decide) (by rfl) (pa_cons (pv 2) (pa_cons (C8.pe_c c_law_times hr (by decide) (by rfl) (pa_cons (C8.pe_c c_law_part hr (by decide) (by rfl) (pa_cons (pv 0) (pa_cons pe_int pa_nil))) (pa_cons (C8.pe_c c_law_part hr (by decide) (by rfl) (pa_cons (pv 1) (pa_cons pe_int pa_nil))) pa_nil))) pa_nil)))))), fun q hq => ?_⟩
  obtain ⟨a, b⟩ := q
  obtain ⟨wa, wb, t1, t2, l⟩ := hq
  have wa' := W.mono wa (b := 400) (by omega)
  have wb' := W.mono wb (b := 400) (by omega)
  refine b_asg (ed_call (callP (even a, odd b) t1) (ea_cons (ed_call (callP (a, (0 : Int)) ⟨wa', .inl rfl⟩) (ea_cons (ed_var rfl) (ea_cons ed_v ea_nil))) (ea_cons (ed_call (callP (b, (1 : Int)) ⟨wb', .inr rfl⟩) (ea_cons (ed_var rfl) (ea_cons ed_v ea_nil))) ea_nil))) ?_
  exact b_ret (ed_call (callP (even a * odd b, odd a * even b) l) (ea_cons (ed_var rfl) (ea_cons (ed_call (callP (odd a, even b) t2) (ea_cons (ed_call (callP (a, (1 : Int)) ⟨wa', .inr rfl⟩) (ea_cons (ed_var rfl) (ea_cons ed_v ea_nil))) (ea_cons (ed_call (callP (b, (0 : Int)) ⟨wb', .inl rfl⟩) (ea_cons (ed_var rfl) (ea_cons ed_v ea_nil))) ea_nil))) ea_nil)))
theorem c__law_lines : C8.Cal P w K mg base 2 "_law_lines" (spF (fun q : L × L => W 400 q.1 ∧ W 400 q.2) (fun q => [dLst K [dLot K q.1, dLot K q.2]]) (fun q => dD K (pairD q.1 q.2))) [] := by
  have c_law_line := c__law_line (P := P) (w := w) (base := base) F
  refine fn_ok F.f__law_lines (N := ["_law_pair"]) (C8.fnScope_by (by decide +kernel)) (fun _ => rfl) fun sc cdv A outer s H E f hr => ⟨_, (pss_one (ps_ret (pe_tup (pa_cons (C8.pe_c c_law_line hr (by decide) (by rfl) (pa_cons (pe_ix (r := rIxL K) ix_list (pv 0) pe_int (fun _ _ => rfl)) pa_nil)) (pa_cons (C8.pe_c c_law_line hr (by decide) (by rfl) (pa_cons (pe_ix (r := rIxL K) ix_list (pv 0) pe_int (fun _ _ => rfl)) pa_nil)) pa_nil))))), fun q hq => ?_⟩
  exact b_ret (ed_tup (xs := [pD q.1, pD q.2]) (ea_cons (ed_call (callP q.1 hq.1) (ea_cons (ed_op (op_ixLP (by rfl)) (ed_var rfl) ed_v) ea_nil)) (ea_cons (ed_call (callP q.2 hq.2) (ea_cons (ed_op (op_ixLP (by rfl)) (ed_var rfl) ed_v) ea_nil)) ea_nil)) (by simp))
end
end K65

/-! K65LG: the law's division and its common row -/
namespace K65
open PySem PySem.Spec PyProof.Rows L2
noncomputable def botO (p : L) : Int := (rowOf p).1
noncomputable def topO (p : L) : Int := (rowOf p).1 + (rowOf p).2.length - 1
theorem bot_O {p : L} (h : p ≠ 0) : Bot p (botO p) := ((rowOf_is p).ne h).2.1
theorem top_O {p : L} (h : p ≠ 0) : Top p (topO p) := ((rowOf_is p).ne h).2.2
noncomputable def plainL (p : L) : L := later (0 - botO p) (L.scale (1 / p.co (botO p)) p)
theorem plain_zero : plainL 0 = 0 := L.eq_of_co fun k => by
  unfold plainL
  simp only [co_later, co_scale, co_zero]
  grind
theorem sm_inv {x : Rat} (h : Sm x) (hx : x ≠ 0) : Sm (1 / x) := by
  have hn : x.num ≠ 0 := fun e => hx (Rat.num_eq_zero.mp e)
  have e : (1 / x : Rat) = x⁻¹ := by grind
  rw [e]
  refine ⟨?_, ?_⟩
  · rw [Rat.num_inv, Int.natAbs_mul, Int.natAbs_sign_of_ne_zero hn, Nat.one_mul]
    exact h.2
  · rw [Rat.den_inv, if_neg hn]
    exact h.1
/-- what plain asks -/
structure PlOk (p : L) : Prop where
  s : SmL p
  w : W 200 p
/-- the law's division: what is left, what was found so far; what comes of it -/
inductive Pt (q : L) : Nat → L → L → L → L → Prop
  | stop {l f : L} : (l = 0 ∨ width l < width q) → Pt q 0 l f f l
  | step {n : Nat} {l f f' l' : L} : l ≠ 0 → width q ≤ width l → SmL l → f.co (topO l - topO q) = 0 → TmOk (mono (topO l - topO q) (l.co (topO l) / q.co (topO q))) q → LsOk l (mono (topO l - topO q) (l.co (topO l) / q.co (topO q)) * q) → Sm (q.co (topO q)) →
      Pt q n (l - mono (topO l - topO q) (l.co (topO l) / q.co (topO q)) * q) (f + mono (topO l - topO q) (l.co (topO l) / q.co (topO q))) f' l' → Pt q (n + 1) l f f' l'
theorem width_O {p : L} (h : p ≠ 0) : (width p : Int) = topO p - botO p + 1 := by
  have := row_len (rowOf_is p)
  unfold topO botO
  omega
inductive Gr : L → L → L → Prop
  | stop {p : L} : Gr p 0 p
  | step {n : Nat} {p q f l g : L} : q ≠ 0 → n ≤ 1000 → Pt q n p 0 f l → PlOk l → width (plainL l) < width q → Gr q (plainL l) g → Gr p q g
noncomputable def optL (l f : L) : Option L := if isZ l then some f else none
def dOpt (K : PySem.W.Frag) : Option L → DP
  | none => dV .non
  | some f => dLot K f
section
variable {P : Program} {w : World} {mg : Str → Option Value} {base : Heap} {K : PySem.W.Frag} {ds ds' ds1 : List (Option DP)} {te tl th : TE} {ta : TA} {tt : TT} {t u : TS} {d d1 d2 : DP} {dl : List DP} {tm : Tm}
variable (F : Facts K mg)
include F
theorem c__law_plain : C8.Cal P w K mg base 5 "_law_plain" (spF (fun p : L => PlOk p) (fun p => [dLot K p]) (fun p => dLot K (plainL p))) [] := by
  have mmin := F.m_min
  have c_law_later := c__law_later (P := P) (w := w) (base := base) F
  have mlist := F.m_list
  have c_law_scaled := c__law_scaled (P := P) (w := w) (base := base) F
  have c_law_over := c__law_over (P := P) (w := w) (base := base) F
  refine fn_ok F.f__law_plain (N := ["_law_lot_here", "_law_first"]) (C8.fnScope_by (by decide +kernel)) (fun _ => rfl) fun sc cdv A outer s H E f hr => ⟨_, (pss_cons (ps_if (pt_cmpR (op_eqK (by have h := hr.un; show (A.deeper _).units + 70 < cLine; omega)) (pv 0) pe_dnewK (nomark _)) (pss_one (ps_ret pe_dnewK)) pss_nil) (pss_cons (ps_set (i := 1) sc.nd rfl (Or.inl rfl) (pe_callB (cr_min rfl) (by rfl) mmin (by decide +kernel) (pa_cons (pe_callTy (call_list_dK rfl) (by rfl) mlist (by decide +kernel) (pa_cons (pv 0) pa_nil)) pa_nil))) (pss_one (ps_ret (C8.pe_c c_law_later hr (by decide) (by rfl) (pa_cons (C8.pe_c c_law_scaled hr (by decide) (by rfl) (pa_cons (pv 0) (pa_cons (C8.pe_c c_law_over hr (by decide) (by rfl) (pa_cons (pe_tup (pa_cons pe_int (pa_cons pe_int pa_nil))) (pa_cons (pe_dget (by have h := hr.un; show (A.deeper _).units + 1 < cLine; omega) (pv 0) (pv 1) (fun _ _ => rfl)) pa_nil))) pa_nil))) (pa_cons (pe_op op_sub pe_int (pv 1)) pa_nil))))))), fun q hq => ?_⟩
  refine b_if (eb_eqNo (p := q) (ed_var rfl)) (fun e => ?_) (fun e => ?_)
  · have e := isZ_iff.mp e
    subst e
    rw [plain_zero]
    exact b_ret ed_no
  · have ne := isZ_not.mp e
    have hb := bot_O ne
    refine b_open (i := 0) rfl fun tm ok => ?_
    refine b_asg (ed_min ok hb (ed_var rfl)) ?_
    have hg : lk tm (botO q) = some (q.co (botO q)) := (lk_some_iff ok).mpr ⟨rfl, hb.1⟩
    have s1 : Sm 1 := ⟨by decide, by decide⟩
    have sb := hq.s (botO q)
    unfold plainL
    refine b_ret (ed_call (callP (L.scale (1 / q.co (botO q)) q, 0 - botO q) (fun k hk => ?_)) (ea_cons (ed_call (callP (q, 1 / q.co (botO q)) ⟨W.mono hq.w (by omega), hq.s, sm_inv sb hb.1⟩) (ea_cons ((ed_var rfl).imp (imp_lot ok)) (ea_cons (ed_call (callP (1, q.co (botO q)) ⟨s1, sb, hb.1⟩) (ea_cons (ed_tup (xs := [.int 1, .int 1]) (ea_cons (ed_v.imp imp_int') (ea_cons (ed_v.imp imp_int') ea_nil)) (by simp)) (ea_cons (ed_dget ((ed_var rfl).imp lot_read) (ed_var rfl) hg) ea_nil))) ea_nil))) (ea_cons (ed_op op_I0 ed_v (ed_var rfl)) ea_nil)))
    have hk : (L.scale (1 / q.co (botO q)) q).co k ≠ 0 := hk
    rw [co_scale] at hk
    have := hq.w k fun z => hk (by rw [z]; grind)
    omega
omit F in
theorem call_R {α : Type} {pre : α → Prop} {dl : α → List DP} {d : α → DP} {E : XK} (a : α) (hp : pre a) (h : EvA ta ds (dl a)) {σ : L2.St} {H : Hp} (s : Sl σ ds H) {Q : VK} (q : ∀ v H' b, v = .ref b → Same H H' → H b = none → (d a).is v H' → Q v H') : tCall (spR pre dl d) [] E ta σ H Q :=
  h σ H s _ fun vs H1 e1 hvs => by
    show spR pre dl d (vs ++ []) H1 Q E
    rw [List.append_nil]
    exact ⟨a, hp, hvs, fun v H' b e e2 hb hv => q v H' b e (e1.trans e2) (none_back e1 hb) hv⟩
omit F in
theorem six {σ : L2.St} {H : Hp} {d0 d1 d2 d3 d4 d5 : Option DP} (hl : σ.length = 6) (h0 : ∀ d, d0 = some d → ∃ v, σ[0]? = some (some v) ∧ d.is v H) (h1 : ∀ d, d1 = some d → ∃ v, σ[1]? = some (some v) ∧ d.is v H) (h2 : ∀ d, d2 = some d → ∃ v, σ[2]? = some (some v) ∧ d.is v H)
    (h3 : ∀ d, d3 = some d → ∃ v, σ[3]? = some (some v) ∧ d.is v H) (h4 : ∀ d, d4 = some d → ∃ v, σ[4]? = some (some v) ∧ d.is v H) (h5 : ∀ d, d5 = some d → ∃ v, σ[5]? = some (some v) ∧ d.is v H) : Sl σ [d0, d1, d2, d3, d4, d5] H := ⟨hl, fun i d hd => by
  match i, hd with
  | 0, hd => exact h0 d (Option.some.inj hd)
  | 1, hd => exact h1 d (Option.some.inj hd)
  | 2, hd => exact h2 d (Option.some.inj hd)
  | 3, hd => exact h3 d (Option.some.inj hd)
  | 4, hd => exact h4 d (Option.some.inj hd)
  | 5, hd => exact h5 d (Option.some.inj hd)
  | i + 6, hd => simp at hd⟩
theorem c__law_parted : C8.Cal P w K mg base 6 "_law_parted" (spF (fun q : L × L × Nat × L × L => q.2.1 ≠ 0 ∧ q.2.2.1 ≤ 1000 ∧ Pt q.2.1 q.2.2.1 q.1 0 q.2.2.2.1 q.2.2.2.2) (fun q => [dLot K q.1, dLot K q.2.1]) (fun q => dTup K [dLot K q.2.2.2.1, dLot K q.2.2.2.2])) [] := by
  have mlist := F.m_list
  have mmax := F.m_max
  have mmin := F.m_min
  have c_law_over := c__law_over (P := P) (w := w) (base := base) F
  have c_law_less := c__law_less_r (P := P) (w := w) (base := base) F
  have c_law_times := c__law_times (P := P) (w := w) (base := base) F
  refine fn_ok F.f__law_parted (N := ["_law_one", "_law_two_here", "_law_tip", "_law_width", "_law_found", "_law_at"]) (C8.fnScope_by (by decide +kernel)) (fun _ => rfl) fun sc cdv A outer s H E f hr => ⟨_, (pss_cons (ps_par3 (i := 2) (j := 3) (l := 4) rfl sc.nd rfl rfl rfl (by decide) (by decide) (by decide) rfl rfl rfl (pa_cons (pe_callB (cr_max rfl) (by rfl) mmax (by decide +kernel) (pa_cons (pe_callTy (call_list_dK rfl) (by rfl) mlist (by decide +kernel) (pa_cons (pv 1) pa_nil)) pa_nil)) (pa_cons (pe_op op_sub (pe_callB (cr_max rfl) (by rfl) mmax (by decide +kernel) (pa_cons (pe_callTy (call_list_dK rfl) (by rfl) mlist (by decide +kernel) (pa_cons (pv 1) pa_nil)) pa_nil)) (pe_callB (cr_min rfl) (by rfl) mmin (by decide +kernel) (pa_cons (pe_callTy (call_list_dK rfl) (by rfl) mlist (by decide +kernel) (pa_cons (pv 1) pa_nil)) pa_nil))) (pa_cons pe_dnewK pa_nil))) (by rfl)) (pss_cons (ps_while PassesOwn.never (PW.pt (pw_and (pt_cmpR (op_neK (by have h := hr.un; show (A.deeper _).units + 70 < cLine; omega)) (pv 0) pe_dnewK (nomark _)) (pw_and1 (pt_cmpR op_ge (pe_op op_sub (pe_callB (cr_max rfl) (by rfl) mmax (by decide +kernel) (pa_cons (pe_callTy (call_list_dK rfl) (by rfl) mlist (by decide +kernel) (pa_cons (pv 0) pa_nil)) pa_nil)) (pe_callB (cr_min rfl) (by rfl) mmin (by decide +kernel) (pa_cons (pe_callTy (call_list_dK rfl) (by rfl) mlist (by decide +kernel) (pa_cons (pv 0) pa_nil)) pa_nil))) (pv 3) (nomark _))))) (pss_cons (ps_set (i := 5) sc.nd rfl (Or.inl rfl) (pe_op op_sub (pe_callB (cr_max rfl) (by rfl) mmax (by decide +kernel) (pa_cons (pe_callTy (call_list_dK rfl) (by rfl) mlist (by decide +kernel) (pa_cons (pv 0) pa_nil)) pa_nil)) (pv 2))) (pss_cons (ps_dput (by have h := hr.un; show (A.deeper _).units + 1 < cLine; omega) (pv 4) (pv 5) (C8.pe_c c_law_over hr (by decide) (by rfl) (pa_cons (pe_dget (by have h := hr.un; show (A.deeper _).units + 1 < cLine; omega) (pv 0) (pe_op op_add (pv 5) (pv 2)) (fun _ _ => rfl)) (pa_cons (pe_dget (by have h := hr.un; show (A.deeper _).units + 1 < cLine; omega) (pv 1) (pv 2) (fun _ _ => rfl)) pa_nil))) rfl) (pss_one (ps_set (i := 0) sc.nd rfl (Or.inl rfl) (C8.pe_c c_law_less hr (by decide) (by rfl) (pa_cons (pv 0) (pa_cons (C8.pe_c c_law_times hr (by decide) (by rfl) (pa_cons (pe_disp (pps_cons (pv 5) (pe_dget (by have h := hr.un; show (A.deeper _).units + 1 < cLine; omega) (pv 4) (pv 5) (fun _ _ => rfl)) pps_nil) (by rfl) (by rfl) (fun z => by cases z) (by decide)) (pa_cons (pv 1) pa_nil))) pa_nil)))))))) (pss_one (ps_ret (pe_tup (pa_cons (pv 4) (pa_cons (pv 0) pa_nil))))))), fun q hq => ?_⟩
  obtain ⟨p, q, n, fq, lq⟩ := q
  obtain ⟨ne, hn1000, run⟩ := hq
  replace ne : q ≠ 0 := ne
  replace hn1000 : n ≤ 1000 := hn1000
  replace run : Pt q n p 0 fq lq := run
  refine b_open (i := 1) rfl fun t2 ok2 => ?_
  intro D σ H s fin
  have hb := bot_O ne
  have ht := top_O ne
  have wO := width_O ne
  refine (ed_max (K := K) ok2 ht (ed_var (ds := (slots ["_law_one", "_law_two_here", "_law_tip", "_law_width", "_law_found", "_law_at"] [dLot K p, dLot K q]).set 1 (some (dLotT K t2))) (i := 1) rfl)) σ H s _ fun x H1 e1 hx => ?_
  refine (ed_op (r := rI0 fun i j => .int (i - j)) op_I0 (ed_max (K := K) ok2 ht (ed_var (ds := (slots ["_law_one", "_law_two_here", "_law_tip", "_law_width", "_law_found", "_law_at"] [dLot K p, dLot K q]).set 1 (some (dLotT K t2))) (i := 1) rfl)) (ed_min (K := K) ok2 hb (ed_var (i := 1) rfl))) σ H1 (s.mono e1) _ fun y H2 e2 hy => ?_
  intro Fa hFa2
  cases hx
  cases hy
  refine ⟨_, _, _, rfl, ?_⟩
  have e02 : Same H H2 := e1.trans e2
  have hFa : H Fa = none := none_back e02 hFa2
  have e3 : Same H2 (upd H2 Fa (.dK [])) := same_new hFa2
  have s3 := (s.mono e02).mono e3
  -- the loop
  have imp2 : ∀ {a : Addr} {t : Tm} {x : L}, LotOk t x → DP.imp (dLA K a t) (dLot K x) := fun ok v H h => imp_lot ok v H (imp_LA v H h)
  have inv0 : ∃ a1 t1 d2, a1 ≠ Fa ∧ d2 ≠ Fa ∧ LotOk t1 p ∧ Sl (((σ.set 2 (some (.int (topO q)))).set 3 (some (.int (topO q - botO q)))).set 4 (some (.ref Fa))) [some (dLA K a1 t1), some (dLA K d2 t2), some (dV (.int (topO q))), some (dV (.int (topO q - botO q))), some (dLA K Fa []), none] (upd H2 Fa (.dK [])) := by
    obtain ⟨v1, hv1, t1, ok1, a1, kvs1, rfl, ha1, hk1⟩ := s.at' 0 (dLot K p) rfl
    obtain ⟨v2, hv2, d2, kvs2, rfl, ha2, hk2⟩ := s.at' 1 (dLotT K t2) rfl
    have hlen : σ.length = 6 := s.len
    refine ⟨a1, t1, d2, ne_of_none ha1 hFa, ne_of_none ha2 hFa, ok1, six (by simp [hlen]) (fun d h => ?_) (fun d h => ?_) (fun d h => ?_) (fun d h => ?_) (fun d h => ?_) (fun _ h => nomatch h)⟩ <;> (have h := Option.some.inj h; subst h)
    · exact ⟨.ref a1, by simpa using hv1, rfl, kvs1, e3 _ _ (e02 _ _ ha1), hk1.mono (e02.trans e3)⟩
    · exact ⟨.ref d2, by simpa using hv2, rfl, kvs2, e3 _ _ (e02 _ _ ha2), hk2.mono (e02.trans e3)⟩
    · exact ⟨_, by simp [hlen], rfl⟩
    · exact ⟨_, by simp [hlen], rfl⟩
    · exact ⟨.ref Fa, by simp [hlen], rfl, [], upd_same, .nil⟩
  obtain ⟨a1, t1, d2, na1, nd2, ok1, sl0⟩ := inv0
  refine ⟨fun m σ' H' => ∃ l f ft a1 t1, Pt q m l f fq lq ∧ ft.length + m ≤ n ∧ Same H H' ∧ a1 ≠ Fa ∧ LotOk t1 l ∧ LotOk ft f ∧ Sl σ' [some (dLA K a1 t1), some (dLA K d2 t2), some (dV (.int (topO q))), some (dV (.int (topO q - botO q))), some (dLA K Fa ft), none] H',
    ⟨n, p, 0, [], a1, t1, run, by simp, e02.trans e3, na1, ok1, lot_ok_nil, sl0⟩, ?_⟩
  clear sl0 na1 ok1 a1 t1 run
  rintro m σ' H' ⟨l, f, ft, a1, t1, pt, hcnt, eS, na, ok1, okf, sl⟩
  refine (eb_and (b1 := !isZ l) (b2 := decide (topO q - botO q ≤ topO l - botO l)) (eb_neNoL (p := l) ((ed_var (i := 0) rfl).imp (imp2 ok1))) fun h => ?_ : EvB _ _ _) σ' H' sl _ fun H3 e3' => ?_
  · have nl : l ≠ 0 := isZ_not.mp (by simpa using h)
    exact eb_test (ed_op op_I0 (ed_op op_I0 (ed_max ok1 (top_O nl) ((ed_var rfl).imp imp_LA)) (ed_min ok1 (bot_O nl) ((ed_var rfl).imp imp_LA))) (ed_var rfl))
  · have sl3 := sl.mono e3'
    cases hc : (!isZ l && decide (topO q - botO q ≤ topO l - botO l)) with
    | false =>
      rw [if_neg Bool.false_ne_true]
      have : fq = f ∧ lq = l := by
        cases pt with
        | stop _ => exact ⟨rfl, rfl⟩
        | step nl hw =>
          exfalso
          rw [Bool.and_eq_false_iff] at hc
          rcases hc with z | z
          · rw [isZ_not.mpr nl] at z
            cases z
          · have := of_decide_eq_false z
            have := width_O nl
            omega
      obtain ⟨rfl, rfl⟩ := this
      exact (b_ret (ed_tupP (K := K) (ea_cons ((ed_var (i := 4) rfl).imp (imp2 okf)) (ea_cons ((ed_var (i := 0) rfl).imp (imp2 ok1)) ea_nil)) (by simp))) D σ' H3 sl3 fun v H4 e4 hv => fin v H4 ((eS.trans e3').trans e4) hv
    | true =>
      rw [if_pos rfl]
      rw [Bool.and_eq_true, decide_eq_true_eq] at hc
      have nl : l ≠ 0 := isZ_not.mp (by simpa using hc.1)
      cases pt with
      | stop z =>
        exfalso
        rcases z with z | z
        · exact nl z
        · have := width_O nl
          omega
      | @step n' _ _ _ _ _ hw sm hf0 tm ls smq nx =>
        have tl := top_O nl
        have hbl := bot_O nl
        generalize hat : topO l - topO q = at' at *
        generalize hcc : l.co (topO l) / q.co (topO q) = cc at *
        have cne : cc ≠ 0 := by
          rw [← hcc]
          intro z
          have h1 : q.co (topO q) ≠ 0 := ht.1
          have h2 : l.co (topO l) ≠ 0 := tl.1
          exact h2 (by
            have : l.co (topO l) = (l.co (topO l) / q.co (topO q)) * q.co (topO q) := by grind
            rw [this, z]
            grind)
        refine ⟨fun σ'' H'' => ∃ l f ft a1 t1, Pt q n' l f fq lq ∧ ft.length + n' ≤ n ∧ Same H H'' ∧ a1 ≠ Fa ∧ LotOk t1 l ∧ LotOk ft f ∧ Sl σ'' [some (dLA K a1 t1), some (dLA K d2 t2), some (dV (.int (topO q))), some (dV (.int (topO q - botO q))), some (dLA K Fa ft), none] H'', fun σ'' H'' h => ⟨n', Nat.lt_succ_self _, h⟩, ?_⟩
        -- at = ..
        refine (EvD.to (ed_op op_I0 (ed_max ok1 tl ((ed_var (i := 0) rfl).imp imp_LA)) (ed_var (i := 2) rfl)) (by rw [hat]) : EvD _ _ (dV (.int at'))) σ' H3 sl3 _ fun x4 H4 e4 hx4 => ?_
        cases hx4
        have sl4 : Sl (σ'.set 5 (some (.int at'))) [some (dLA K a1 t1), some (dLA K d2 t2), some (dV (.int (topO q))), some (dV (.int (topO q - botO q))), some (dLA K Fa ft), some (dV (.int at'))] H4 := (sl3.mono e4).set 5 rfl
        have g1 : lk t1 (topO l) = some (l.co (topO l)) := (lk_some_iff ok1).mpr ⟨rfl, tl.1⟩
        have g2 : lk t2 (topO q) = some (q.co (topO q)) := (lk_some_iff ok2).mpr ⟨rfl, ht.1⟩
        -- found[at] = over(..)
        have hov := ed_call (E := C8.E0) (callP (pre := fun q : Rat × Rat => Sm q.1 ∧ Sm q.2 ∧ q.2 ≠ 0) (dl := fun q => [dD K (ratD q.1), dD K (ratD q.2)]) (d := fun q => dD K (ratD (q.1 / q.2))) (l.co (topO l), q.co (topO q)) ⟨sm _, smq, ht.1⟩)
          (ea_cons (ds := [some (dLA K a1 t1), some (dLA K d2 t2), some (dV (.int (topO q))), some (dV (.int (topO q - botO q))), some (dLA K Fa ft), some (dV (.int at'))]) (ed_dget ((ed_var (i := 0) rfl).imp imp_LAR) (EvD.to (ed_op (op_I0 (g := fun i j => .int (i + j))) (ed_var (i := 5) rfl) (ed_var (i := 2) rfl)) (show V.int (at' + topO q) = V.int (topO l) by rw [← hat]; congr 1; omega)) g1) (ea_cons (ed_dget ((ed_var (i := 1) rfl).imp imp_LAR) (ed_var (i := 2) rfl) g2) ea_nil))
        refine hov _ H4 sl4 _ fun x5 H5 e5 hx5 => ?_
        replace hx5 : Dp K H5 x5 (ratD cc) := by
          have : Dp K H5 x5 (ratD (l.co (topO l) / q.co (topO q))) := hx5
          rw [hcc] at this
          exact this
        have sl5 := sl4.mono e5
        obtain ⟨wF, hwF, rfl, fks, hF5, hl5⟩ := sl5.at' 4 (dLA K Fa ft) rfl
        obtain ⟨w5, hw5, hw5'⟩ := sl5.at' 5 (dV (.int at')) rfl
        cases hw5'
        have hl5' := hl5.length
        refine ⟨.ref Fa, hwF, .int at', hw5, Fa, _, rfl, .inl ⟨fks, Sum.inl at', hF5, rfl, ?_, rfl⟩, ?_⟩
        · rw [hl5', sizeLine_eq]
          omega
        have c5 : FCh Fa H5 (upd H5 Fa (.dK (putK fks (Sum.inl at') x5))) := ⟨⟨fks, hF5⟩, fun b o ne h => by rw [upd_ne ne]; exact h⟩
        have okf' : LotOk (putT ft at' cc) (f + mono at' cc) := by
          have e : ofT (putT ft at' cc) = f + mono at' cc := by
            rw [ofT_put okf.keys, okf.eq, hf0]
            congr 2
            grind
          refine ⟨keys_put okf.keys, fun x hx => ?_, e⟩
          have := lk_of_mem (keys_put okf.keys) hx
          rw [lk_put] at this
          split at this
          · rw [← Option.some.inj this]
            exact cne
          · exact okf.clr _ (lk_mem this)
        have hcnt' : (putT ft at' cc).length + n' ≤ n := by
          unfold putT
          split
          · rw [List.length_map]
            omega
          · rw [List.length_append]
            simp
            omega
        have sl6 : Sl (σ'.set 5 (some (.int at'))) [some (dLA K a1 t1), some (dLA K d2 t2), some (dV (.int (topO q))), some (dV (.int (topO q - botO q))), some (dLA K Fa (putT ft at' cc)), some (dV (.int at'))] (upd H5 Fa (.dK (putK fks (Sum.inl at') x5))) := by
          obtain ⟨z0, y0, y0'⟩ := sl5.at' 0 (dLA K a1 t1) rfl
          obtain ⟨z1, y1, y1'⟩ := sl5.at' 1 (dLA K d2 t2) rfl
          obtain ⟨z2, y2, y2'⟩ := sl5.at' 2 _ rfl
          obtain ⟨z3, y3, y3'⟩ := sl5.at' 3 _ rfl
          refine six sl5.len (fun d h => ?_) (fun d h => ?_) (fun d h => ?_) (fun d h => ?_) (fun d h => ?_) (fun d h => ?_) <;> (have h := Option.some.inj h; subst h)
          · exact ⟨z0, y0, okF_LA na _ _ _ c5 y0'⟩
          · exact ⟨z1, y1, okF_LA nd2 _ _ _ c5 y1'⟩
          · exact ⟨z2, y2, y2'⟩
          · exact ⟨z3, y3, y3'⟩
          · exact ⟨.ref Fa, hwF, rfl, _, upd_same, (hl5.put hx5).keepD c5.keepD⟩
          · exact ⟨.int at', hw5, rfl⟩
        have eS6 : Same H (upd H5 Fa (.dK (putK fks (Sum.inl at') x5))) := fun b o hb => c5.rest _ _ (ne_of_none hb hFa) (e5 _ _ (e4 _ _ (e3' _ _ (eS _ _ hb))))
        have hF6 : (upd H5 Fa (.dK (putK fks (Sum.inl at') x5))) Fa = some (.dK (putK fks (Sum.inl at') x5)) := upd_same
        generalize (upd H5 Fa (.dK (putK fks (Sum.inl at') x5))) = H6 at *
        have g3 : lk (putT ft at' cc) at' = some cc := by rw [lk_put, if_pos rfl]
        -- one = less(one, times({at: found[at]}, two))
        have htm := ed_call (E := C8.E0) (callP (pre := fun q : L × L => TmOk q.1 q.2) (dl := fun q => [dLot K q.1, dLot K q.2]) (d := fun q => dLot K (q.1 * q.2)) (mono at' cc, q) tm)
          (ea_cons (ds := [some (dLA K a1 t1), some (dLA K d2 t2), some (dV (.int (topO q))), some (dV (.int (topO q - botO q))), some (dLA K Fa (putT ft at' cc)), some (dV (.int at'))]) ((ed_disp1 (ed_var (i := 5) rfl) (ed_dget ((ed_var (i := 4) rfl).imp imp_LAR) (ed_var (i := 5) rfl) g3)).imp (imp_lot (lot_one cne))) (ea_cons ((ed_var (i := 1) rfl).imp (imp2 ok2)) ea_nil))
        refine call_R (E := C8.E0) (pre := fun q : L × L => LsOk q.1 q.2) (dl := fun q => [dLot K q.1, dLot K q.2]) (d := fun q => dLot K (q.1 - q.2)) (l, mono at' cc * q) ls (ea_cons ((ed_var (i := 0) rfl).imp (imp2 ok1)) (ea_cons htm ea_nil)) sl6 fun v7 H7 b hvb e7 hb7 hv7 => ?_
        obtain ⟨t1', ok1', a1', kvs1', hva, ha1', hk1'⟩ := hv7
        have eab : a1' = b := by
          rw [hvb] at hva
          cases hva
          rfl
        subst eab
        have nF : a1' ≠ Fa := fun z => by
          rw [z, hF6] at hb7
          cases hb7
        refine ⟨l - mono at' cc * q, f + mono at' cc, putT ft at' cc, a1', t1', nx, hcnt', eS6.trans e7, nF, ok1', okf', ?_⟩
        exact ((sl6.mono e7).set 0 (d := dLA K a1' t1') ⟨hva, kvs1', ha1', hk1'⟩).fgt (fgt_keep (fgt_keep (fgt_keep (fgt_keep (fgt_keep (fgt_drop fgt_nil))))))
theorem c__law_quotient : C8.Cal P w K mg base 7 "_law_quotient" (spF (fun q : L × L × Nat × L × L => q.2.1 ≠ 0 ∧ q.2.2.1 ≤ 1000 ∧ Pt q.2.1 q.2.2.1 q.1 0 q.2.2.2.1 q.2.2.2.2) (fun q => [dLot K q.1, dLot K q.2.1]) (fun q => dOpt K (optL q.2.2.2.2 q.2.2.2.1))) [] := by
  have c_law_parted := c__law_parted (P := P) (w := w) (base := base) F
  refine fn_ok F.f__law_quotient (N := ["_law_one", "_law_two_here", "_law_found", "_law_left"]) (C8.fnScope_by (by decide +kernel)) (fun _ => rfl) fun sc cdv A outer s H E f hr => ⟨_, (pss_cons (ps_asg (C8.pe_c c_law_parted hr (by decide) (by rfl) (pa_cons (pv 0) (pa_cons (pv 1) pa_nil))) (pg_tup rfl (pgs_cons (pg_name (i := 2) sc.nd rfl (Or.inl rfl)) (pgs_cons (pg_name (i := 3) sc.nd rfl (Or.inl rfl)) pgs_nil)))) (pss_one (ps_ret (pe_ifExp (pt_cmpR (op_eqK (by have h := hr.un; show (A.deeper _).units + 70 < cLine; omega)) (pv 3) pe_dnewK (nomark _)) (pv 2) pe_non)))), fun q hq => ?_⟩
  refine b_tup2 (ed_call (callP q hq) (ea_cons (ed_var rfl) (ea_cons (ed_var rfl) ea_nil))) (b_ret (ed_if (eb_eqNo (p := q.2.2.2.2) (ed_var rfl)) (fun e => ?_) (fun e => ?_)))
  · unfold optL
    rw [e]
    exact ed_var rfl
  · unfold optL
    rw [e]
    exact ed_v
theorem c__law_greatest : C8.Cal P w K mg base 7 "_law_greatest" (spF (fun q : L × L × L => PlOk q.1 ∧ PlOk q.2.1 ∧ Gr (plainL q.1) (plainL q.2.1) q.2.2) (fun q => [dLot K q.1, dLot K q.2.1]) (fun q => dLot K q.2.2)) [] := by
  have c_law_plain := c__law_plain (P := P) (w := w) (base := base) F
  have c_law_parted := c__law_parted (P := P) (w := w) (base := base) F
  refine fn_ok F.f__law_greatest (N := ["_law_one", "_law_two_here"]) (C8.fnScope_by (by decide +kernel)) (fun _ => rfl) fun sc cdv A outer s H E f hr => ⟨_, (pss_cons (ps_par (i := 0) (j := 1) rfl sc.nd rfl rfl (by decide) rfl rfl (pa_cons (C8.pe_c c_law_plain hr (by decide) (by rfl) (pa_cons (pv 0) pa_nil)) (pa_cons (C8.pe_c c_law_plain hr (by decide) (by rfl) (pa_cons (pv 1) pa_nil)) pa_nil)) (by rfl)) (pss_cons (ps_while PassesOwn.never (pt_cmpR (op_neK (by have h := hr.un; show (A.deeper _).units + 70 < cLine; omega)) (pv 1) pe_dnewK (nomark _)) (pss_one (ps_par (i := 0) (j := 1) rfl sc.nd rfl rfl (by decide) rfl rfl (pa_cons (pv 1) (pa_cons (C8.pe_c c_law_plain hr (by decide) (by rfl) (pa_cons (pe_ix (r := rIxT K) ix_tup (C8.pe_c c_law_parted hr (by decide) (by rfl) (pa_cons (pv 0) (pa_cons (pv 1) pa_nil))) pe_int (fun _ _ => rfl)) pa_nil)) pa_nil)) (by rfl)))) (pss_one (ps_ret (pv 0))))), fun q hq => ?_⟩
  obtain ⟨p, q, g⟩ := q
  obtain ⟨o1, o2, run⟩ := hq
  replace run : Gr (plainL p) (plainL q) g := run
  refine b_st (st_par (ea_cons (ed_call (callP p o1) (ea_cons (ed_var rfl) ea_nil)) (ea_cons (ed_call (callP q o2) (ea_cons (ed_var rfl) ea_nil)) ea_nil))) ?_
  refine b_while (α := L × L) (I := fun a => [some (dLot K a.1), some (dLot K a.2)]) (ok := fun a => Gr a.1 a.2 g) (fun a => width a.2) (fun a => !isZ a.2) (plainL p, plainL q) run rfl (fun a ha => eb_neNoL (p := a.2) (ed_var rfl)) (fun a ha hc => ?_) (fun a ha hc => ?_)
  · obtain ⟨x, y⟩ := a
    replace ha : Gr x y g := ha
    have ne : y ≠ 0 := isZ_not.mp (by simpa using hc)
    cases ha with
    | stop => exact absurd rfl ne
    | @step n _ _ f l _ _ hn pt pl hw nx =>
      refine ⟨(y, plainL l), nx, hw, st_par (ea_cons (ed_var rfl) (ea_cons (ed_call (callP l pl) (ea_cons (ed_op (op_ixTP (by rfl)) (ed_call (callP (x, y, n, f, l) ⟨ne, hn, pt⟩) (ea_cons (ed_var rfl) (ea_cons (ed_var rfl) ea_nil))) ed_v) ea_nil)) ea_nil))⟩
  · obtain ⟨x, y⟩ := a
    replace ha : Gr x y g := ha
    have e : y = 0 := isZ_iff.mp (by simpa using hc)
    subst e
    cases ha with
    | stop => exact b_ret (ed_var rfl)
    | step h _ _ _ _ _ => exact absurd rfl h
theorem c__law_bar : C8.Cal P w K mg base 8 "_law_bar" (spF (fun q : L × L => W 400 q.1 ∧ PlOk (even q.1) ∧ PlOk (odd q.1) ∧ Gr (plainL (even q.1)) (plainL (odd q.1)) q.2) (fun q => [dLot K q.1]) (fun q => dLot K q.2)) [] := by
  have c_law_greatest := c__law_greatest (P := P) (w := w) (base := base) F
  have c_law_part := c__law_part (P := P) (w := w) (base := base) F
  refine fn_ok F.f__law_bar (N := ["_law_lot_here"]) (C8.fnScope_by (by decide +kernel)) (fun _ => rfl) fun sc cdv A outer s H E f hr => ⟨_, (pss_one (ps_ret (C8.pe_c c_law_greatest hr (by decide) (by rfl) (pa_cons (C8.pe_c c_law_part hr (by decide) (by rfl) (pa_cons (pv 0) (pa_cons pe_int pa_nil))) (pa_cons (C8.pe_c c_law_part hr (by decide) (by rfl) (pa_cons (pv 0) (pa_cons pe_int pa_nil))) pa_nil))))), fun q hq => ?_⟩
  obtain ⟨p, g⟩ := q
  obtain ⟨wp, o1, o2, run⟩ := hq
  exact b_ret (ed_call (callP (even p, odd p, g) ⟨o1, o2, run⟩) (ea_cons (ed_call (callP (p, (0 : Int)) ⟨wp, .inl rfl⟩) (ea_cons (ed_var rfl) (ea_cons ed_v ea_nil))) (ea_cons (ed_call (callP (p, (1 : Int)) ⟨wp, .inr rfl⟩) (ea_cons (ed_var rfl) (ea_cons ed_v ea_nil))) ea_nil)))
end
end K65

/-! K65LH: bases; lines checked -/
namespace K65
open PySem PySem.Spec PyProof.Rows L2
/-- a division that is done, with this left and found -/
def Dq (p q f l : L) : Prop := ∃ n, q ≠ 0 ∧ n ≤ 1000 ∧ Pt q n p 0 f l
structure BsOk (a b g u v x y : L) : Prop where
  wa : W 400 a
  wb : W 400 b
  o1 : PlOk (even (if isZ a then b else a))
  o2 : PlOk (odd (if isZ a then b else a))
  run : Gr (plainL (even (if isZ a then b else a))) (plainL (odd (if isZ a then b else a))) g
  q1 : Dq (even (if isZ a then b else a)) g u 0
  q2 : Dq (odd (if isZ a then b else a)) g v 0
  q3 : Dq (if isZ u then odd a else even a) (if isZ u then v else u) x 0
  q4 : Dq (if isZ u then odd b else even b) (if isZ u then v else u) y 0
section
variable {X : Cx}
def rEqLL (K : PySem.W.Frag) : R2 := fun x y H Q => ∃ p0 p1 q0 q1, (dLst K [dLot K p0, dLot K p1]).is x H ∧ (dLst K [dLot K q0, dLot K q1]).is y H ∧ Q (.bl (eqL p0 q0 && eqL p1 q1)) H
theorem op_eqLL (hu : X.A.units + 70 < cLine) : OpR X (compareOp .Eq) (rEqLL X.K) := by
  intro pins s σ H x y v u Q I rx ry h
  obtain ⟨p0, p1, q0, q1, ⟨a, xs, rfl, ha, hx⟩, ⟨b, ys, rfl, hb, hy⟩, q⟩ := h
  cases rx
  cases ry
  cases hx with
  | @cons _ _ x0 _ _ a0 r0 => cases r0 with
    | @cons _ _ x1 _ _ a1 r1 =>
      cases r1
      cases hy with
      | @cons _ _ y0 _ _ b0 s0 => cases s0 with
        | @cons _ _ y1 _ _ b1 s1 =>
          cases s1
          obtain ⟨us, ru, pu, _⟩ := I.list ha
          obtain ⟨ws, rw', pw, _⟩ := I.list hb
          cases ru with
          | @cons _ u0 _ _ e0 t0 => cases t0 with
            | @cons _ u1 _ _ e1 t1 =>
              cases t1
              cases rw' with
              | @cons _ w0 _ _ f0 g0 => cases g0 with
                | @cons _ w1 _ _ f1 g1 =>
                  cases g1
                  refine PySem.W.eq_listsT (n := 65) (e := fun j => if j = 0 then eqL p0 q0 else eqL p1 q1) pu.isList pw.isList rfl (fun j h1 h2 => ?_) (by omega) (fin_bl I q ?_)
                  · match j, h1 with
                    | 0, _ => exact lot_tree I a0 b0 e0 f0
                    | 1, _ => exact lot_tree I a1 b1 e1 f1
                    | j + 2, h1 => exact absurd h1 (by simp)
                  · show _ = (eqL p0 q0 && (eqL p1 q1 && true))
                    rw [Bool.and_true]
end
section
variable {P : Program} {w : World} {mg : Str → Option Value} {base : Heap} {K : PySem.W.Frag} {ds ds' ds1 : List (Option DP)} {te tl th : TE} {ta : TA} {tt : TT} {t u : TS} {d d1 d2 : DP} {dl : List DP} {tm : Tm} {vs : List Nat} {i : Nat} {f : Nat → DP} {p : Nat → Bool}
theorem op_eqLLd {p0 p1 q0 q1 : L} : OpP (rEqLL K) (dLst K [dLot K p0, dLot K p1]) (dLst K [dLot K q0, dLot K q1]) (dV (.bl (eqL p0 q0 && eqL p1 q1))) := fun x y H hx hy Q q => ⟨p0, p1, q0, q1, hx, hy, q _ H (Same.refl H) rfl⟩
theorem ed_optIs {o : Option L} (h : EvD te ds (dOpt K o)) : EvD (tOp (fun x y H Q => y = .non ∧ Q (.bl (!decide (x = .non))) H) te (tC .non)) ds (dV (.bl o.isSome)) := fun σ H s Q q =>
  h σ H s _ fun v H1 e1 hv => ⟨rfl, by
    cases o with
    | none =>
      cases hv
      exact q _ H1 e1 rfl
    | some p =>
      obtain ⟨t, ok, a, kvs, rfl, _⟩ := hv
      exact q _ H1 e1 rfl⟩
/-- a comprehension over a tuple: a list that is no other's -/
theorem ed_lcTX {dl : List DP} (h : EvD te ds (dTup K dl)) {te' : TE} (hn : dl.length ≤ 1000) (hi' : i ∈ vs)
    (he : ∀ j d, dl[j]? = some d → EvD te' ((wipeD ds vs).set i (some d)) (f j))
    (hs : ∀ j d, dl[j]? = some d → (f j).Stiff) : EvD (tLc (iTup K te) (gName i) tYes te' vs) ds (dLsX ((List.range dl.length).map f)) := fun σ H s Q q =>
  h σ H s _ fun v H1 e1 hv => by
    obtain ⟨a, us, rfl, hS, ha⟩ := hv
    refine ⟨a, rfl, ⟨us, hS⟩, fun D hD => ?_⟩
    have hl : us.length = dl.length := ha.length
    refine lc_gen (walk_tup (K := K) (a := a) (xs := us)) (dsj := fun j => (wipeD ds vs).set i (dl[j]?)) (f := f) (p := fun _ => true) hD (by omega) (fun H2 s2 => same_t s2 hS) (fun j x H2 H3 hj s2 y => ?_) (fun j hj => eb_yes) (fun j hj hp => ?_) (fun j hj hp => ?_) (fun H2 acc s2 hDa hA => ?_)
    · obtain ⟨rfl, hx⟩ := y
      have ej : dl[j]? = some dl[j] := List.getElem?_eq_getElem (by omega)
      refine ⟨Same.refl _, fun Kk hk => hk _ (wipe_idem_set hi') ?_⟩
      rw [ej]
      refine (((s.mono e1).mono s2).wipe vs).set i ?_
      obtain ⟨w, h1, h2⟩ := (ha.mono s2).get ej
      rw [hx] at h1
      rw [Option.some.inj h1]
      exact h2
    · have ej : dl[j]? = some dl[j] := List.getElem?_eq_getElem (by omega)
      rw [ej]
      exact he j _ ej
    · have ej : dl[j]? = some dl[j] := List.getElem?_eq_getElem (by omega)
      exact hs j _ ej
    · rw [all_true, hl] at hA
      exact q (.ref D) H2 (e1.trans s2) ⟨D, acc, rfl, hDa, hA⟩
theorem ed_quo {p q f l : L} {E : XK} {tp tq : TE} (h : Dq p q f l) (h1 : EvD tp ds (dLot K p)) (h2 : EvD tq ds (dLot K q)) :
    EvD (tCall (spF (fun q : L × L × Nat × L × L => q.2.1 ≠ 0 ∧ q.2.2.1 ≤ 1000 ∧ Pt q.2.1 q.2.2.1 q.1 0 q.2.2.2.1 q.2.2.2.2) (fun q => [dLot K q.1, dLot K q.2.1]) (fun q => dOpt K (optL q.2.2.2.2 q.2.2.2.1))) [] E (tCons tp (tCons tq tNil))) ds (dOpt K (optL l f)) := by
  obtain ⟨n, a, b, c⟩ := h
  exact ed_call (callP (p, q, n, f, l) ⟨a, b, c⟩) (ea_cons h1 (ea_cons h2 ea_nil))
theorem opt_zero {f : L} : dOpt K (optL 0 f) = dLot K f := by
  unfold optL
  rw [isZ_iff.mpr rfl]
  rfl
variable (F : Facts K mg)
include F
theorem c__law_base : C8.Cal P w K mg base 9 "_law_base" (spF (fun q : L × L × L × L × L × L × L => BsOk q.1 q.2.1 q.2.2.1 q.2.2.2.1 q.2.2.2.2.1 q.2.2.2.2.2.1 q.2.2.2.2.2.2) (fun q => [dLot K q.1, dLot K q.2.1]) (fun q => dTup K [dLst K [dLot K q.2.2.2.1, dLot K q.2.2.2.2.1], dLst K [dLot K q.2.2.2.2.2.1, dLot K q.2.2.2.2.2.2]])) [] := by
  have c_law_bar := c__law_bar (P := P) (w := w) (base := base) F
  have c_law_quotient := c__law_quotient (P := P) (w := w) (base := base) F
  have c_law_part := c__law_part (P := P) (w := w) (base := base) F
  refine fn_ok F.f__law_base (N := ["_law_one", "_law_two_here", "_law_some", "_law_bar_here", "_law_pair", "_law_at", "_law_k", "_law_lot_here"]) (C8.fnScope_by (by decide +kernel)) (fun _ => rfl) fun sc cdv A outer s H E f hr => ⟨_, (pss_cons (ps_set (i := 2) sc.nd rfl (Or.inr rfl) (pe_ifExp (pt_cmpR (op_neK (by have h := hr.un; show (A.deeper _).units + 70 < cLine; omega)) (pv 0) pe_dnewK (nomark _)) (pv 0) (pv 1))) (pss_cons (ps_set (i := 3) sc.nd rfl (Or.inr rfl) (C8.pe_c c_law_bar hr (by decide) (by rfl) (pa_cons (pv 2) pa_nil))) (pss_cons (ps_set (i := 4) sc.nd rfl (Or.inr rfl) (pe_lc (own := [("_law_k", 6)]) rfl sc.nd (pi_tup (pe_tup (pa_cons pe_int (pa_cons pe_int pa_nil)))) (blkOk_by (by change blkC ["_law_one", "_law_two_here", "_law_some", "_law_bar_here", "_law_pair", "_law_at", "_law_k", "_law_lot_here"] (C8.fnScope (topS 92)) _ _ = true; decide +kernel)) (fun _ _ _ _ _ => (pg_name (i := 6) sc.nd rfl (by first | exact Or.inl rfl | exact Or.inr rfl))) (fun _ _ _ _ _ => pts_nil) (fun _ _ _ _ _ => (C8.pe_c c_law_quotient hr (by decide) (by rfl) (pa_cons (C8.pe_c c_law_part hr (by decide) (by rfl) (pa_cons (pv 2) (pa_cons (pv 6) pa_nil))) (pa_cons (pv 3) pa_nil)))))) (pss_cons (ps_set (i := 5) sc.nd rfl (Or.inr rfl) (pe_ifExp (pt_cmpR (op_neK (by have h := hr.un; show (A.deeper _).units + 70 < cLine; omega)) (pe_ix (r := rIxL K) ix_list (pv 4) pe_int (fun _ _ => rfl)) pe_dnewK (nomark _)) pe_int pe_int)) (pss_one (ps_ret (pe_tup (pa_cons (pv 4) (pa_cons (pe_lc (own := [("_law_lot_here", 7)]) rfl sc.nd (pi_tup (pe_tup (pa_cons (pv 0) (pa_cons (pv 1) pa_nil)))) (blkOk_by (by change blkC ["_law_one", "_law_two_here", "_law_some", "_law_bar_here", "_law_pair", "_law_at", "_law_k", "_law_lot_here"] (C8.fnScope (topS 92)) _ _ = true; decide +kernel)) (fun _ _ _ _ _ => (pg_name (i := 7) sc.nd rfl (by first | exact Or.inl rfl | exact Or.inr rfl))) (fun _ _ _ _ _ => pts_nil) (fun _ _ _ _ _ => (C8.pe_c c_law_quotient hr (by decide) (by rfl) (pa_cons (C8.pe_c c_law_part hr (by decide) (by rfl) (pa_cons (pv 7) (pa_cons (pv 5) pa_nil))) (pa_cons (pe_ix (r := rIxL K) ix_list (pv 4) (pv 5) (fun _ _ => rfl)) pa_nil))))) pa_nil))))))))), fun q hq => ?_⟩
  obtain ⟨a, b, g, u, v, x, y⟩ := q
  replace hq : BsOk a b g u v x y := hq
  obtain ⟨wa, wb, o1, o2, run, q1, q2, q3, q4⟩ := hq
  have ws : W 400 (if isZ a then b else a) := by
    split
    · exact wb
    · exact wa
  refine b_asg (d1 := dLot K (if isZ a then b else a)) (ed_if (eb_neNoL (p := a) (ed_var rfl)) (fun e => ?_) (fun e => ?_)) ?_
  · have e : isZ a = false := by simpa using e
    rw [e]
    exact ed_var rfl
  · have e : isZ a = true := by simpa using e
    rw [e]
    exact ed_var rfl
  generalize (if isZ a then b else a) = sm at *
  refine b_asg (ed_call (callP (sm, g) ⟨ws, o1, o2, run⟩) (ea_cons (ed_var rfl) ea_nil)) ?_
  refine b_asg (d1 := dLst K [dLot K u, dLot K v]) (EvD.imp (ed_lcTX (K := K) (dl := [dV (.int 0), dV (.int 1)]) (f := fun j => if j = 0 then dLot K u else dLot K v) (ed_tupP (ea_cons ed_v (ea_cons ed_v ea_nil)) (by simp)) (by simp) (by simp) (fun j d hd => ?_) (fun j d hd => ?_)) imp_lsX) ?_
  · match j, hd with
    | 0, hd =>
      have e := Option.some.inj hd
      subst e
      exact EvD.imp (ed_quo q1 (ed_call (callP (sm, (0 : Int)) ⟨ws, .inl rfl⟩) (ea_cons (ed_var rfl) (ea_cons (ed_var rfl) ea_nil))) (ed_var rfl)) (imp_eq opt_zero)
    | 1, hd =>
      have e := Option.some.inj hd
      subst e
      exact EvD.imp (ed_quo q2 (ed_call (callP (sm, (1 : Int)) ⟨ws, .inr rfl⟩) (ea_cons (ed_var rfl) (ea_cons (ed_var rfl) ea_nil))) (ed_var rfl)) (imp_eq opt_zero)
    | j + 2, hd => simp at hd
  · split
    · exact stiff_lot
    · exact stiff_lot
  refine b_asg (d1 := dV (.int (if isZ u then 1 else 0))) (ed_if (eb_neNoL (p := u) (ed_op (op_ixLP (by rfl)) (ed_var rfl) ed_v)) (fun e => ?_) (fun e => ?_)) ?_
  · have e : isZ u = false := by simpa using e
    rw [e]
    exact ed_v
  · have e : isZ u = true := by simpa using e
    rw [e]
    exact ed_v
  have hpr : atI [dLot K u, dLot K v] (if isZ u then 1 else 0) = some (dLot K (if isZ u then v else u)) := by
    cases isZ u <;> rfl
  have hz : ((if isZ u then 1 else 0 : Int) = 0 ∨ (if isZ u then 1 else 0 : Int) = 1) := by cases isZ u <;> simp
  have hpt : ∀ c : L, (if (if isZ u then 1 else 0 : Int) = 0 then even c else odd c) = (if isZ u then odd c else even c) := fun c => by cases isZ u <;> rfl
  refine b_ret (ed_tupP (K := K) (ea_cons (ed_var rfl) (ea_cons (EvD.imp (ed_lcTX (K := K) (dl := [dLot K a, dLot K b]) (f := fun j => if j = 0 then dLot K x else dLot K y) (ed_tupP (ea_cons (ed_var rfl) (ea_cons (ed_var rfl) ea_nil)) (by simp)) (by simp) (by simp) (fun j d hd => ?_) (fun j d hd => ?_)) imp_lsX) ea_nil)) (by simp))
  · match j, hd with
    | 0, hd =>
      have e := Option.some.inj hd
      subst e
      exact EvD.imp (ed_quo q3 (EvD.imp (ed_call (callP (a, (if isZ u then 1 else 0 : Int)) ⟨wa, hz⟩) (ea_cons (ed_var rfl) (ea_cons (ed_var rfl) ea_nil))) (imp_eq (by show dLot K (if (if isZ u then 1 else 0 : Int) = 0 then even a else odd a) = _; rw [hpt]))) (ed_op (op_ixLP hpr) (ed_var rfl) (ed_var rfl))) (imp_eq opt_zero)
    | 1, hd =>
      have e := Option.some.inj hd
      subst e
      exact EvD.imp (ed_quo q4 (EvD.imp (ed_call (callP (b, (if isZ u then 1 else 0 : Int)) ⟨wb, hz⟩) (ea_cons (ed_var rfl) (ea_cons (ed_var rfl) ea_nil))) (imp_eq (by show dLot K (if (if isZ u then 1 else 0 : Int) = 0 then even b else odd b) = _; rw [hpt]))) (ed_op (op_ixLP hpr) (ed_var rfl) (ed_var rfl))) (imp_eq opt_zero)
    | j + 2, hd => simp at hd
  · split
    · exact stiff_lot
    · exact stiff_lot
theorem c__law_is_whole : C8.Cal P w K mg base 1 "_law_is_whole" (spF (fun _ : Int => True) (fun q => [dV (.int q)]) (fun q => dV (.bl true))) [] := by
  have misinstance := F.m_isinstance
  have mint := F.m_int
  have mbool := F.m_bool
  refine fn_ok F.f__law_is_whole (N := ["_law_thing"]) (C8.fnScope_by (by decide +kernel)) (fun _ => rfl) fun sc cdv A outer s H E f hr => ⟨_, (pss_one (ps_ret (pe_and (pe_callB call_isi (by rfl) misinstance (by decide +kernel) (pa_cons (pv 0) (pa_cons (pe_bltn (v := .ty "int") (by rfl) mint (by decide +kernel) rfl) pa_nil))) (pe_one (pe_not (pe_callB call_isi (by rfl) misinstance (by decide +kernel) (pa_cons (pv 0) (pa_cons (pe_bltn (v := .ty "bool") (by rfl) mbool (by decide +kernel) rfl) pa_nil)))))))), fun q hq => ?_⟩
  exact b_ret (ed_andV (b1 := true) (b2 := true) (ed_cb rc_isInt (ea_cons (ed_var rfl) (ea_cons ed_v ea_nil))) fun _ => ed_notV (b1 := false) (ed_cb rc_isBool (ea_cons (ed_var rfl) (ea_cons ed_v ea_nil))))
theorem c__law_is_fraction : C8.Cal P w K mg base 2 "_law_is_fraction" (spF (fun _ : Rat => True) (fun q => [dD K (ratD q)]) (fun q => dV (.bl true))) [] := by
  have misinstance := F.m_isinstance
  have mtuple := F.m_tuple
  have mlen := F.m_len
  have c_law_is_whole := c__law_is_whole (P := P) (w := w) (base := base) F
  have c_law_common := c__law_common (P := P) (w := w) (base := base) F
  refine fn_ok F.f__law_is_fraction (N := ["_law_thing"]) (C8.fnScope_by (by decide +kernel)) (fun _ => rfl) fun sc cdv A outer s H E f hr => ⟨_, (pss_cons (ps_if (PW.pt (pw_or (pt_not (pt_val (pe_callB call_isi (by rfl) misinstance (by decide +kernel) (pa_cons (pv 0) (pa_cons (pe_bltn (v := .ty "tuple") (by rfl) mtuple (by decide +kernel) rfl) pa_nil))))) (pw_or (pt_cmpR op_ne (pe_callB call_len (by rfl) mlen PySem.boot_len (pa_cons (pv 0) pa_nil)) pe_int (nomark _)) (pw_or (pt_not (pt_val (C8.pe_c c_law_is_whole hr (by decide) (by rfl) (pa_cons (pe_ix (r := rIxT K) ix_tup (pv 0) pe_int (fun _ _ => rfl)) pa_nil)))) (pw_or1 (pt_not (pt_val (C8.pe_c c_law_is_whole hr (by decide) (by rfl) (pa_cons (pe_ix (r := rIxT K) ix_tup (pv 0) pe_int (fun _ _ => rfl)) pa_nil))))))))) (pss_one (ps_ret pe_bl)) pss_nil) (pss_one (ps_ret (pe_and (pe_cmpR op_gt (pe_ix (r := rIxT K) ix_tup (pv 0) pe_int (fun _ _ => rfl)) pe_int (nomark _)) (pe_one (pe_cmpR op_eq (C8.pe_c c_law_common hr (by decide) (by rfl) (pa_cons (pe_ix (r := rIxT K) ix_tup (pv 0) pe_int (fun _ _ => rfl)) (pa_cons (pe_ix (r := rIxT K) ix_tup (pv 0) pe_int (fun _ _ => rfl)) pa_nil))) pe_int (nomark _))))))), fun q hq => ?_⟩
  have hd := q.den_nz
  refine b_if (b1 := false) (eb_or (b1 := false) (b2 := false) (eb_not (b1 := true) (eb_B (ed_isTup (xs := [.int q.num, .int q.den]) (ed_var rfl)))) fun _ => eb_or (b1 := false) (b2 := false) ((eb_test (ed_op (op_neV (by rfl)) (ed_len (xs := [.int q.num, .int q.den]) (ed_var rfl)) ed_v)).to rfl) fun _ => eb_or (b1 := false) (b2 := false) (eb_not (b1 := true) (eb_B (ed_call (callP q.num trivial) (ea_cons (ed_num (ed_var rfl)) ea_nil)))) fun _ => eb_not (b1 := true) (eb_B (ed_call (callP (q.den : Int) trivial) (ea_cons (ed_den (ed_var rfl)) ea_nil)))) (fun e => nomatch e) fun _ => ?_
  refine b_ret (ed_andV (b1 := true) (b2 := true) (EvD.to (ed_op op_I0 (ed_den (ed_var rfl)) ed_v) ?_) fun _ => EvD.to (ed_op (op_eqV (by rfl)) (ed_call (callP (q.num, (q.den : Int)) trivial) (ea_cons (ed_num (ed_var rfl)) (ea_cons (ed_den (ed_var rfl)) ea_nil))) ed_v) ?_)
  · rw [decide_eq_true (by omega)]
  · have : (Nat.gcd q.num.natAbs (q.den : Int).natAbs : Nat) = 1 := q.reduced
    show V.bl (decide (V.int ((Nat.gcd q.num.natAbs (q.den : Int).natAbs : Nat) : Int) = V.int 1)) = _
    rw [this]
    rfl
theorem c__law_is_line : C8.Cal P w K mg base 3 "_law_is_line" (spF (fun q : L => W 400 q) (fun q => [dD K (pD q)]) (fun q => dV (.bl true))) [] := by
  have misinstance := F.m_isinstance
  have mtuple := F.m_tuple
  have mlen := F.m_len
  have c_law_is_whole := c__law_is_whole (P := P) (w := w) (base := base) F
  have c_law_is_fraction := c__law_is_fraction (P := P) (w := w) (base := base) F
  refine fn_ok F.f__law_is_line (N := ["_law_thing", "_law_each"]) (C8.fnScope_by (by decide +kernel)) (fun _ => rfl) fun sc cdv A outer s H E f hr => ⟨_, (pss_cons (ps_if (PW.pt (pw_or (pt_not (pt_val (pe_callB call_isi (by rfl) misinstance (by decide +kernel) (pa_cons (pv 0) (pa_cons (pe_bltn (v := .ty "tuple") (by rfl) mtuple (by decide +kernel) rfl) pa_nil))))) (pw_or (pt_cmpR op_ne (pe_callB call_len (by rfl) mlen PySem.boot_len (pa_cons (pv 0) pa_nil)) pe_int (nomark _)) (pw_or (pt_not (pt_val (C8.pe_c c_law_is_whole hr (by decide) (by rfl) (pa_cons (pe_ix (r := rIxT K) ix_tup (pv 0) pe_int (fun _ _ => rfl)) pa_nil)))) (pw_or1 (pt_not (pt_val (pe_callB call_isi (by rfl) misinstance (by decide +kernel) (pa_cons (pe_ix (r := rIxT K) ix_tup (pv 0) pe_int (fun _ _ => rfl)) (pa_cons (pe_bltn (v := .ty "tuple") (by rfl) mtuple (by decide +kernel) rfl) pa_nil)))))))))) (pss_one (ps_ret pe_bl)) pss_nil) (pss_cons (ps_if (pt_cmpR (op_eqD hr.units) (pe_ix (r := rIxT K) ix_tup (pv 0) pe_int (fun _ _ => rfl)) (pe_tup pa_nil) (nomark _)) (pss_one (ps_ret (pe_cmpR op_eq (pe_ix (r := rIxT K) ix_tup (pv 0) pe_int (fun _ _ => rfl)) pe_int (nomark _)))) pss_nil) (pss_cons (ps_if (pt_cmpR (op_neD hr.units) (pe_lc (own := [("_law_each", 1)]) rfl sc.nd (pi_tup (pe_ix (r := rIxT K) ix_tup (pv 0) pe_int (fun _ _ => rfl))) (blkOk_by (by change blkC ["_law_thing", "_law_each"] (C8.fnScope (topS 89)) _ _ = true; decide +kernel)) (fun _ _ _ _ _ => (pg_name (i := 1) sc.nd rfl (by first | exact Or.inl rfl | exact Or.inr rfl))) (fun _ _ _ _ _ => (pts_one (pt_not (pt_val (C8.pe_c c_law_is_fraction hr (by decide) (by rfl) (pa_cons (pv 1) pa_nil)))))) (fun _ _ _ _ _ => (pv 1))) (pe_lst pa_nil) (nomark _)) (pss_one (ps_ret pe_bl)) pss_nil) (pss_one (ps_ret (pe_and (pe_cmpR op_ne (pe_ix (r := rIxT K) ix_tup (pe_ix (r := rIxT K) ix_tup (pe_ix (r := rIxT K) ix_tup (pv 0) pe_int (fun _ _ => rfl)) pe_int (fun _ _ => rfl)) pe_int (fun _ _ => rfl)) pe_int (nomark _)) (pe_one (pe_cmpR op_ne (pe_ix (r := rIxT K) ix_tup (pe_ix (r := rIxT K) ix_tup (pe_ix (r := rIxT K) ix_tup (pv 0) pe_int (fun _ _ => rfl)) (pe_un un_neg pe_int) (fun _ _ => rfl)) pe_int (fun _ _ => rfl)) pe_int (nomark _))))))))), fun q hq => ?_⟩
  have bw := row_w (by omega) hq
  refine b_if (b1 := false) (eb_or (b1 := false) (b2 := false) (eb_not (b1 := true) (eb_B (ed_isTup (xs := [.int (rowOf q).1, fracsD (rowOf q).2]) (ed_var rfl)))) fun _ => eb_or (b1 := false) (b2 := false) ((eb_test (ed_op (op_neV (by rfl)) (ed_len (xs := [.int (rowOf q).1, fracsD (rowOf q).2]) (ed_var rfl)) ed_v)).to rfl) fun _ => eb_or (b1 := false) (b2 := false) (eb_not (b1 := true) (eb_B (ed_call (callP (rowOf q).1 trivial) (ea_cons (ed_start (r := rowOf q) (ed_var rfl)) ea_nil)))) fun _ => eb_not (b1 := true) (eb_B (ed_isTup (xs := (rowOf q).2.map ratD) (ed_nums (r := rowOf q) (ed_var rfl))))) (fun e => nomatch e) fun _ => ?_
  refine b_if (eb_test (ed_op (op_eqDD (shaped_fracs _) rfl) (ed_nums (r := rowOf q) (ed_var rfl)) (ed_tup (xs := []) ea_nil (by simp)))) (fun e => ?_) (fun e => ?_)
  · have e1 : (rowOf q).2 = [] := by
      have : PyData.eqvAll ((rowOf q).2.map ratD) (([] : List Rat).map ratD) = true := e
      rw [eqv_rats] at this
      exact of_decide_eq_true this
    have e2 : (rowOf q).1 = 0 := by
      rcases (rowOf_is q).1 with h | h
      · exact h.2
      · exact absurd e1 h.1
    exact b_ret (EvD.to (ed_op (op_eqV (by rfl)) (ed_start (r := rowOf q) (ed_var rfl)) ed_v) (by rw [e2]; rfl))
  · have e1 : (rowOf q).2 ≠ [] := fun z => by
      have : PyData.eqvAll ((rowOf q).2.map ratD) (([] : List Rat).map ratD) = false := e
      rw [eqv_rats, z] at this
      simp at this
    have hl : 0 < (rowOf q).2.length := List.length_pos_iff.mpr e1
    obtain ⟨n1, n2, n3⟩ : (rowOf q).2 ≠ [] ∧ nth (rowOf q).2 0 ≠ 0 ∧ nth (rowOf q).2 (((rowOf q).2.length : Int) - 1) ≠ 0 := by
      rcases (rowOf_is q).1 with h | h
      · exact absurd h.1 e1
      · exact h
    have ne : ∀ x : Rat, x ≠ 0 → V.bl (!decide (V.int x.num = V.int 0)) = V.bl true := fun x hx => by
      rw [dec_num, decide_eq_false hx]
      rfl
    refine b_if (b1 := false) ((eb_test (ed_op (op_neDD (x := .list []) (y := .list []) rfl rfl) (EvD.imp (ed_lcT (K := K) (dl := (rowOf q).2.map fun x => dD K (ratD x)) (f := fun _ => dV .non) (p := fun _ => false) ((ed_nums (r := rowOf q) (ed_var rfl)).imp imp_fracs) (by rw [List.length_map]; omega) (by simp) (fun j d hd => ?_) (fun j d _ h => nomatch h) (fun j d _ h => nomatch h)) fun v H h => ?_) (EvD.imp (ed_lstP (K := K) (dl := []) ea_nil (by simp)) (imp_lst (xs := []))))).to rfl) (fun e => nomatch e) fun _ => ?_
    · rw [List.getElem?_map] at hd
      cases e : (rowOf q).2[j]? with
      | none => rw [e] at hd; cases hd
      | some x =>
        rw [e] at hd
        have hd : dD K (ratD x) = d := Option.some.inj hd
        subst hd
        exact eb_not (b1 := true) (eb_B (ed_call (callP x trivial) (ea_cons (ed_var rfl) ea_nil)))
    · have e0 : ((List.range ((rowOf q).2.map fun x => dD K (ratD x)).length).filter fun _ => false) = [] := List.filter_eq_nil_iff.mpr fun _ _ => by simp
      rw [e0] at h
      exact imp_lst (xs := []) v H h
    · exact b_ret (ed_andV (b1 := true) (b2 := true) (EvD.to (ed_op (op_neV (by rfl)) (ed_num (ed_op (op_ixT (nth_at (i := 0) (by omega) (by omega))) (ed_nums (r := rowOf q) (ed_var rfl)) ed_v)) ed_v) (ne _ n2)) fun _ => EvD.to (ed_op (op_neV (by rfl)) (ed_num (ed_op (op_ixT (nth_last hl)) (ed_nums (r := rowOf q) (ed_var rfl)) (un_neg_d ed_v))) ed_v) (ne _ n3))
theorem c__law_are_lines : C8.Cal P w K mg base 4 "_law_are_lines" (spF (fun q : L × L => W 400 q.1 ∧ W 400 q.2) (fun q => [dD K (pairD q.1 q.2)]) (fun q => dV (.bl true))) [] := by
  have misinstance := F.m_isinstance
  have mtuple := F.m_tuple
  have c_law_is_line := c__law_is_line (P := P) (w := w) (base := base) F
  have mlen := F.m_len
  refine fn_ok F.f__law_are_lines (N := ["_law_thing"]) (C8.fnScope_by (by decide +kernel)) (fun _ => rfl) fun sc cdv A outer s H E f hr => ⟨_, (pss_one (ps_ret (pe_and (pe_callB call_isi (by rfl) misinstance (by decide +kernel) (pa_cons (pv 0) (pa_cons (pe_bltn (v := .ty "tuple") (by rfl) mtuple (by decide +kernel) rfl) pa_nil))) (pe_and (pe_cmpR op_eq (pe_callB call_len (by rfl) mlen PySem.boot_len (pa_cons (pv 0) pa_nil)) pe_int (nomark _)) (pe_and (C8.pe_c c_law_is_line hr (by decide) (by rfl) (pa_cons (pe_ix (r := rIxT K) ix_tup (pv 0) pe_int (fun _ _ => rfl)) pa_nil)) (pe_one (C8.pe_c c_law_is_line hr (by decide) (by rfl) (pa_cons (pe_ix (r := rIxT K) ix_tup (pv 0) pe_int (fun _ _ => rfl)) pa_nil)))))))), fun q hq => ?_⟩
  exact b_ret (ed_andV (b1 := true) (b2 := true) (ed_isTup (xs := [pD q.1, pD q.2]) (ed_var rfl)) fun _ => ed_andV (b1 := true) (b2 := true) (EvD.to (ed_op (op_eqV (by rfl)) (ed_len (xs := [pD q.1, pD q.2]) (ed_var rfl)) ed_v) rfl) fun _ => ed_andV (b1 := true) (b2 := true) (ed_call (callP q.1 hq.1) (ea_cons (ed_fst (ed_var rfl)) ea_nil)) fun _ => ed_call (callP q.2 hq.2) (ea_cons (ed_snd (ed_var rfl)) ea_nil))
structure LedOk (t0 t1 a c0 c1 : L) : Prop where
  w0 : W 400 t0
  w1 : W 400 t1
  m0 : TmOk t0 a
  m1 : TmOk t1 a
  e0 : chan t0 a = c0
  e1 : chan t1 a = c1
theorem c__law_is_led : C8.Cal P w K mg base 6 "_law_is_led" (spF (fun q : L × L × L × L × L => LedOk q.1 q.2.1 q.2.2.1 q.2.2.2.1 q.2.2.2.2) (fun q => [dD K (pairD q.1 q.2.1), dLot K q.2.2.1, dLst K [dLot K q.2.2.2.1, dLot K q.2.2.2.2]]) (fun q => dV (.bl true))) [] := by
  have c_law_are_lines := c__law_are_lines (P := P) (w := w) (base := base) F
  have c_law_channel := c__law_channel (P := P) (w := w) (base := base) F
  have c_law_lot := c__law_lot (P := P) (w := w) (base := base) F
  refine fn_ok F.f__law_is_led (N := ["_law_told", "_law_lot_here", "_law_pair", "_law_line_here"]) (C8.fnScope_by (by decide +kernel)) (fun _ => rfl) fun sc cdv A outer s H E f hr => ⟨_, (pss_one (ps_ret (pe_and (C8.pe_c c_law_are_lines hr (by decide) (by rfl) (pa_cons (pv 0) pa_nil)) (pe_one (pe_cmpR (op_eqLL (by have h := hr.un; show (A.deeper _).units + 70 < cLine; omega)) (pe_lc (own := [("_law_line_here", 3)]) rfl sc.nd (pi_tup (pv 0)) (blkOk_by (by change blkC ["_law_told", "_law_lot_here", "_law_pair", "_law_line_here"] (C8.fnScope (topS 93)) _ _ = true; decide +kernel)) (fun _ _ _ _ _ => (pg_name (i := 3) sc.nd rfl (by first | exact Or.inl rfl | exact Or.inr rfl))) (fun _ _ _ _ _ => pts_nil) (fun _ _ _ _ _ => (C8.pe_c c_law_channel hr (by decide) (by rfl) (pa_cons (C8.pe_c c_law_lot hr (by decide) (by rfl) (pa_cons (pv 3) pa_nil)) (pa_cons (pv 1) pa_nil))))) (pv 2) (nomark _)))))), fun q hq => ?_⟩
  obtain ⟨t0, t1, a, c0, c1⟩ := q
  replace hq : LedOk t0 t1 a c0 c1 := hq
  refine b_ret (ed_andV (b1 := true) (b2 := true) (ed_call (callP (t0, t1) ⟨hq.w0, hq.w1⟩) (ea_cons (ed_var rfl) ea_nil)) fun _ => EvD.to (ed_op (op_eqLLd (p0 := c0) (p1 := c1) (q0 := c0) (q1 := c1)) (EvD.imp (ed_lcTX (K := K) (dl := [dD K (pD t0), dD K (pD t1)]) (f := fun j => if j = 0 then dLot K c0 else dLot K c1) ((ed_var rfl).imp (imp_tup' (xs := [pD t0, pD t1]))) (by simp) (by simp) (fun j d hd => ?_) (fun j d hd => ?_)) imp_lsX) (ed_var rfl)) ?_)
  · match j, hd with
    | 0, hd =>
      have e := Option.some.inj hd
      subst e
      show EvD _ _ (dLot K c0)
      rw [← hq.e0]
      exact ed_call (callP (t0, a) hq.m0) (ea_cons (ed_call (callP t0 hq.w0) (ea_cons (ed_var rfl) ea_nil)) (ea_cons (ed_var rfl) ea_nil))
    | 1, hd =>
      have e := Option.some.inj hd
      subst e
      show EvD _ _ (dLot K c1)
      rw [← hq.e1]
      exact ed_call (callP (t1, a) hq.m1) (ea_cons (ed_call (callP t1 hq.w1) (ea_cons (ed_var rfl) ea_nil)) (ea_cons (ed_var rfl) ea_nil))
    | j + 2, hd => simp at hd
  · split
    · exact stiff_lot
    · exact stiff_lot
  · rw [eqL_iff.mpr rfl, eqL_iff.mpr rfl]
    rfl
end
end K65

/-! K65LI: whether a row fits -/
namespace K65
open PySem PySem.Spec PyProof.Rows L2
structure FitOk (a b c o : L) (res : Bool) : Prop where
  cr : CrOk a b
  tell : even a * odd b - odd a * even b ≠ 0 → W 400 a ∧ W 400 b ∧ TmOk c (odd b) ∧ TmOk o (odd a) ∧ LsOk (c * odd b) (o * odd a) ∧ TmOk o (even a) ∧ TmOk c (even b) ∧ LsOk (o * even a) (c * even b) ∧
    ∃ f l f' l', Dq (c * odd b - o * odd a) (even a * odd b - odd a * even b) f l ∧ Dq (o * even a - c * even b) (even a * odd b - odd a * even b) f' l' ∧ res = (isZ l && isZ l')
  none : even a * odd b - odd a * even b = 0 → a = 0 → b = 0 → res = (isZ c && isZ o)
  along : even a * odd b - odd a * even b = 0 → ¬ (a = 0 ∧ b = 0) → ∃ g u v x y f l, BsOk a b g u v x y ∧ Dq (if isZ x then o else c) (if isZ x then y else x) f l ∧ (l = 0 → TmOk f x ∧ TmOk f y) ∧ res = (isZ l && (eqL (f * x) c && eqL (f * y) o))
section
variable {P : Program} {w : World} {mg : Str → Option Value} {base : Heap} {K : PySem.W.Frag} {ds ds' ds1 : List (Option DP)} {te tl th : TE} {ta : TA} {tt : TT} {t u : TS} {d d1 d2 : DP} {dl : List DP} {tm : Tm} {vs : List Nat} {i : Nat} {f : Nat → DP} {p : Nat → Bool}
/-- [[a lot, a lot] for x in (.., ..)] -/
theorem ed_lcLL {d0 d1 : DP} {g : Nat → L × L} (h : EvD te ds (dTup K [d0, d1])) {te' : TE} (hi' : i ∈ vs)
    (he : ∀ j d, [d0, d1][j]? = some d → EvD te' ((wipeD ds vs).set i (some d)) (dLsX [dLot K (g j).1, dLot K (g j).2])) :
    EvF (tLc (iTup K te) (gName i) tYes te' vs) ds [dLsX [dLot K (g 0).1, dLot K (g 0).2], dLsX [dLot K (g 1).1, dLot K (g 1).2]] := fun σ H s Q q =>
  h σ H s _ fun v H1 e1 hv => by
    obtain ⟨a, us, rfl, hS, ha⟩ := hv
    refine ⟨a, rfl, ⟨us, hS⟩, fun D hD => ?_⟩
    have hl : us.length = 2 := ha.length
    refine lc_it (walk_tup (K := K) (a := a) (xs := us)) (fun k H => Same H1 H ∧ ∃ acc, H D = some (.lst acc) ∧ acc.length = k ∧ ∀ (i : Nat) (v : V), acc[i]? = some v → ∃ b, b ≠ D ∧ v = .ref b ∧ (dLsX [dLot K (g i).1, dLot K (g i).2]).is v H) ⟨same_new hD, [], upd_same, rfl, fun i v h => by simp at h⟩ (fun j H _ hp => same_t hp.1 hS) (fun j x H H' hj hp hy => ?_) (fun H hp => ?_)
    · obtain ⟨s1, acc, hDa, hla, hac⟩ := hp
      obtain ⟨rfl, hx⟩ := hy
      have ej : [d0, d1][j]? = some [d0, d1][j] := List.getElem?_eq_getElem (by simp; omega)
      obtain ⟨w0, h1, h2⟩ := (ha.mono s1).get ej
      rw [hx] at h1
      have h1 := Option.some.inj h1
      subst h1
      have slj := (((s.mono e1).mono s1).wipe vs).set i h2
      refine ⟨wipe_idem_set hi', eb_yes _ _ slj _ fun H3 e3 => ?_⟩
      rw [if_pos rfl]
      refine he j _ ej _ _ (slj.mono e3) _ fun v4 H4 e34 hv4 => ?_
      have e4 := e3.trans e34
      have hD4 : H4 D = some (.lst acc) := e4 _ _ hDa
      obtain ⟨b, ws, rfl, hb, hws⟩ := hv4
      have nb : b ≠ D := fun z => by
        subst z
        rw [hD4] at hb
        cases hb
        have := hws.length
        simp at this
        omega
      have kk : Keep H4 (upd H4 D (.lst (acc ++ [.ref b]))) := Keep.upd hD4
      have stay : ∀ {x y : L} {v : V} {b : Addr}, b ≠ D → v = .ref b → (dLsX [dLot K x, dLot K y]).is v H4 → (dLsX [dLot K x, dLot K y]).is v (upd H4 D (.lst (acc ++ [.ref b]))) → True := fun _ _ _ _ => trivial
      have stay : ∀ {x y : L} {v : V} {b' : Addr}, b' ≠ D → v = .ref b' → (dLsX [dLot K x, dLot K y]).is v H4 → (dLsX [dLot K x, dLot K y]).is v (upd H4 D (.lst (acc ++ [.ref b]))) := fun {x y v b'} nb' ev hh => by
        obtain ⟨c, zs, e, h5, h6⟩ := hh
        rw [ev] at e
        cases e
        refine ⟨b', zs, ev, by rw [upd_ne nb']; exact h5, h6.keep kk fun d hd => ?_⟩
        rcases List.mem_cons.mp hd with z | z
        · rw [z]
          exact stiff_lot
        · rw [List.mem_singleton.mp z]
          exact stiff_lot
      refine ⟨acc, hD4, small1000 (by omega), fun c o e => ?_, acc ++ [.ref b], upd_same, by simp [hla], fun i' v' hv' => ?_⟩
      · rw [upd_ne (ne_of_none e hD)]
        exact e4 _ _ (s1 _ _ e)
      · by_cases hi : i' < acc.length
        · rw [List.getElem?_append_left hi] at hv'
          obtain ⟨b', n', e', hh⟩ := hac i' v' hv'
          exact ⟨b', n', e', stay n' e' ((dLsX _).mono e4 hh)⟩
        · rw [List.getElem?_append_right (by omega)] at hv'
          have hi0 : i' - acc.length = 0 := by
            by_cases z : i' - acc.length = 0
            · exact z
            · have : ([V.ref b] : List V).length ≤ i' - acc.length := by simp; omega
              rw [List.getElem?_eq_none this] at hv'
              cases hv'
          rw [hi0] at hv'
          have hv' : V.ref b = v' := Option.some.inj hv'
          subst hv'
          have : i' = j := by omega
          subst this
          exact ⟨b, nb, rfl, stay nb rfl ⟨b, ws, rfl, hb, hws⟩⟩
    · obtain ⟨s1, acc, hDa, hla, hac⟩ := hp
      rw [hl] at hla
      match acc, hla, hDa, hac with
      | [v0, v1], _, hDa, hac =>
        obtain ⟨_, _, _, k0⟩ := hac 0 v0 rfl
        obtain ⟨_, _, _, k1⟩ := hac 1 v1 rfl
        exact q D [v0, v1] H (none_back e1 hD) (e1.trans s1) hDa (.cons k0 (.cons k1 .nil))
theorem ef_d {dl : List DP} (h : EvF te ds dl) : EvD te ds (dLsX dl) := fun σ H s Q q => h σ H s Q fun A vs H' _ e hA ha => q (.ref A) H' e ⟨A, vs, rfl, hA, ha⟩
variable (F : Facts K mg)
include F
theorem c__law_fits_one : C8.Cal P w K mg base 10 "_law_fits_one" (spF (fun q : L × L × L × L × Bool => FitOk q.1 q.2.1 q.2.2.1 q.2.2.2.1 q.2.2.2.2) (fun q => [dLot K q.1, dLot K q.2.1, dLot K q.2.2.1, dLot K q.2.2.2.1]) (fun q => dV (.bl q.2.2.2.2))) [] := by
  have c_law_crossed := c__law_crossed (P := P) (w := w) (base := base) F
  have c_law_quotient := c__law_quotient (P := P) (w := w) (base := base) F
  have c_law_less := c__law_less (P := P) (w := w) (base := base) F
  have c_law_base := c__law_base (P := P) (w := w) (base := base) F
  have c_law_times := c__law_times (P := P) (w := w) (base := base) F
  have c_law_part := c__law_part (P := P) (w := w) (base := base) F
  refine fn_ok F.f__law_fits_one (N := ["_law_one", "_law_two_here", "_law_here", "_law_there", "_law_across", "_law_parts", "_law_first", "_law_last", "_law_by", "_law_at", "_law_found", "_law_lot_here"]) (C8.fnScope_by (by decide +kernel)) (fun _ => rfl) fun sc cdv A outer s H E f hr => ⟨_, (pss_cons (ps_set (i := 4) sc.nd rfl (Or.inl rfl) (C8.pe_c c_law_crossed hr (by decide) (by rfl) (pa_cons (pv 0) (pa_cons (pv 1) pa_nil)))) (pss_cons (ps_if (pt_cmpR (op_neK (by have h := hr.un; show (A.deeper _).units + 70 < cLine; omega)) (pv 4) pe_dnewK (nomark _)) (pss_cons (ps_setLc (i := 5) (own := [("_law_lot_here", 11)]) rfl sc.nd rfl rfl (sw_true rfl rfl rfl (by decide +kernel)) (pi_tup (pe_tup (pa_cons (pv 0) (pa_cons (pv 1) pa_nil)))) (blkOk_by (by change blkC ["_law_one", "_law_two_here", "_law_here", "_law_there", "_law_across", "_law_parts", "_law_first", "_law_last", "_law_by", "_law_at", "_law_found", "_law_lot_here"] (C8.fnScope (topS 95)) _ _ = true; decide +kernel)) (fun _ _ _ _ _ => (pg_name (i := 11) sc.nd rfl (by first | exact Or.inl rfl | exact Or.inr rfl))) (fun _ _ _ _ _ => pts_nil) (fun _ _ _ _ _ => (pe_lst (pa_cons (C8.pe_c c_law_part hr (by decide) (by rfl) (pa_cons (pv 11) (pa_cons pe_int pa_nil))) (pa_cons (C8.pe_c c_law_part hr (by decide) (by rfl) (pa_cons (pv 11) (pa_cons pe_int pa_nil))) pa_nil))))) (pss_cons (ps_set (i := 6) sc.nd rfl (Or.inl rfl) (C8.pe_c c_law_less hr (by decide) (by rfl) (pa_cons (C8.pe_c c_law_times hr (by decide) (by rfl) (pa_cons (pv 2) (pa_cons (pe_ix (r := rIxL K) ix_list (pe_ix (r := rIxL K) ix_list (pv 5) pe_int (fun _ _ => rfl)) pe_int (fun _ _ => rfl)) pa_nil))) (pa_cons (C8.pe_c c_law_times hr (by decide) (by rfl) (pa_cons (pv 3) (pa_cons (pe_ix (r := rIxL K) ix_list (pe_ix (r := rIxL K) ix_list (pv 5) pe_int (fun _ _ => rfl)) pe_int (fun _ _ => rfl)) pa_nil))) pa_nil)))) (pss_cons (ps_set (i := 7) sc.nd rfl (Or.inl rfl) (C8.pe_c c_law_less hr (by decide) (by rfl) (pa_cons (C8.pe_c c_law_times hr (by decide) (by rfl) (pa_cons (pv 3) (pa_cons (pe_ix (r := rIxL K) ix_list (pe_ix (r := rIxL K) ix_list (pv 5) pe_int (fun _ _ => rfl)) pe_int (fun _ _ => rfl)) pa_nil))) (pa_cons (C8.pe_c c_law_times hr (by decide) (by rfl) (pa_cons (pv 2) (pa_cons (pe_ix (r := rIxL K) ix_list (pe_ix (r := rIxL K) ix_list (pv 5) pe_int (fun _ _ => rfl)) pe_int (fun _ _ => rfl)) pa_nil))) pa_nil)))) (pss_one (ps_ret (pe_and (pe_cmpR op_notN (C8.pe_c c_law_quotient hr (by decide) (by rfl) (pa_cons (pv 6) (pa_cons (pv 4) pa_nil))) pe_non (nomark _)) (pe_one (pe_cmpR op_notN (C8.pe_c c_law_quotient hr (by decide) (by rfl) (pa_cons (pv 7) (pa_cons (pv 4) pa_nil))) pe_non (nomark _))))))))) pss_nil) (pss_cons (ps_if (PW.pt (pw_and (pt_cmpR (op_eqK (by have h := hr.un; show (A.deeper _).units + 70 < cLine; omega)) (pv 0) pe_dnewK (nomark _)) (pw_and1 (pt_cmpR (op_eqK (by have h := hr.un; show (A.deeper _).units + 70 < cLine; omega)) (pv 1) pe_dnewK (nomark _))))) (pss_one (ps_ret (pe_and (pe_cmpR (op_eqK (by have h := hr.un; show (A.deeper _).units + 70 < cLine; omega)) (pv 2) pe_dnewK (nomark _)) (pe_one (pe_cmpR (op_eqK (by have h := hr.un; show (A.deeper _).units + 70 < cLine; omega)) (pv 3) pe_dnewK (nomark _)))))) pss_nil) (pss_cons (ps_set (i := 8) sc.nd rfl (Or.inl rfl) (pe_ix (r := rIxT K) ix_tup (C8.pe_c c_law_base hr (by decide) (by rfl) (pa_cons (pv 0) (pa_cons (pv 1) pa_nil))) pe_int (fun _ _ => rfl))) (pss_cons (ps_set (i := 9) sc.nd rfl (Or.inl rfl) (pe_ifExp (pt_cmpR (op_neK (by have h := hr.un; show (A.deeper _).units + 70 < cLine; omega)) (pe_ix (r := rIxL K) ix_list (pv 8) pe_int (fun _ _ => rfl)) pe_dnewK (nomark _)) pe_int pe_int)) (pss_cons (ps_set (i := 10) sc.nd rfl (Or.inl rfl) (C8.pe_c c_law_quotient hr (by decide) (by rfl) (pa_cons (pe_ix (r := rIxL K) ix_list (pe_lst (pa_cons (pv 2) (pa_cons (pv 3) pa_nil))) (pv 9) (fun _ _ => rfl)) (pa_cons (pe_ix (r := rIxL K) ix_list (pv 8) (pv 9) (fun _ _ => rfl)) pa_nil)))) (pss_one (ps_ret (pe_and (pe_cmpR op_notN (pv 10) pe_non (nomark _)) (pe_one (pe_cmpR (op_eqLL (by have h := hr.un; show (A.deeper _).units + 70 < cLine; omega)) (pe_lst (pa_cons (C8.pe_c c_law_times hr (by decide) (by rfl) (pa_cons (pv 10) (pa_cons (pe_ix (r := rIxL K) ix_list (pv 8) pe_int (fun _ _ => rfl)) pa_nil))) (pa_cons (C8.pe_c c_law_times hr (by decide) (by rfl) (pa_cons (pv 10) (pa_cons (pe_ix (r := rIxL K) ix_list (pv 8) pe_int (fun _ _ => rfl)) pa_nil))) pa_nil))) (pe_lst (pa_cons (pv 2) (pa_cons (pv 3) pa_nil))) (nomark _)))))))))))), fun q hq => ?_⟩
  obtain ⟨a, b, c, o, res⟩ := q
  replace hq : FitOk a b c o res := hq
  obtain ⟨cr, tell, non, along⟩ := hq
  refine b_asg (ed_call (callP (a, b) cr) (ea_cons (ed_var rfl) (ea_cons (ed_var rfl) ea_nil))) ?_
  refine b_if (eb_neNoL (p := even a * odd b - odd a * even b) (ed_var rfl)) (fun e => ?_) (fun e => ?_)
  · have ne : even a * odd b - odd a * even b ≠ 0 := isZ_not.mp (by simpa using e)
    obtain ⟨wa, wb, t1, t2, l1, t3, t4, l2, f, l, f', l', q1, q2, er⟩ := tell ne
    generalize hdet : even a * odd b - odd a * even b = det at *
    refine b_st (st_asg (EvD.imp (ef_d (ed_lcLL (K := K) (g := fun j => if j = 0 then (even a, odd a) else (even b, odd b)) (ed_tupP (ea_cons (ed_var rfl) (ea_cons (ed_var rfl) ea_nil)) (by simp)) (by simp) fun j d hd => ?_)) (imp_lsX (K := K)))) ?_
    · have : ∃ z : L, W 400 z ∧ d = dLot K z ∧ (if j = 0 then (even a, odd a) else (even b, odd b)) = (even z, odd z) := by
        match j, hd with
        | 0, hd => exact ⟨a, wa, (Option.some.inj hd).symm, rfl⟩
        | 1, hd => exact ⟨b, wb, (Option.some.inj hd).symm, rfl⟩
        | j + 2, hd => simp at hd
      obtain ⟨z, wz, rfl, ez⟩ := this
      rw [ez]
      exact ed_lsX (ea_cons (ed_call (callP (z, (0 : Int)) ⟨wz, .inl rfl⟩) (ea_cons (ed_var rfl) (ea_cons ed_v ea_nil))) (ea_cons (ed_call (callP (z, (1 : Int)) ⟨wz, .inr rfl⟩) (ea_cons (ed_var rfl) (ea_cons ed_v ea_nil))) ea_nil)) (by simp)
    · have pt : ∀ {ds' : List (Option DP)} (h : ds'[5]? = some (some (dLst K [dLsX [dLot K (even a), dLot K (odd a)], dLsX [dLot K (even b), dLot K (odd b)]]))),
          EvD (tOp (rIxL K) (tOp (rIxL K) (tVar 5) (tC (.int 0))) (tC (.int 0))) ds' (dLot K (even a)) ∧ EvD (tOp (rIxL K) (tOp (rIxL K) (tVar 5) (tC (.int 0))) (tC (.int 1))) ds' (dLot K (odd a)) ∧
          EvD (tOp (rIxL K) (tOp (rIxL K) (tVar 5) (tC (.int 1))) (tC (.int 0))) ds' (dLot K (even b)) ∧ EvD (tOp (rIxL K) (tOp (rIxL K) (tVar 5) (tC (.int 1))) (tC (.int 1))) ds' (dLot K (odd b)) := fun h => by
        have i0 := EvD.imp (ed_op (op_ixLP (K := K) (dl := [dLsX [dLot K (even a), dLot K (odd a)], dLsX [dLot K (even b), dLot K (odd b)]]) (i := 0) (d := dLsX [dLot K (even a), dLot K (odd a)]) rfl) (ed_var h) ed_v) (imp_lsX (K := K))
        have i1 := EvD.imp (ed_op (op_ixLP (K := K) (dl := [dLsX [dLot K (even a), dLot K (odd a)], dLsX [dLot K (even b), dLot K (odd b)]]) (i := 1) (d := dLsX [dLot K (even b), dLot K (odd b)]) rfl) (ed_var h) ed_v) (imp_lsX (K := K))
        exact ⟨ed_op (op_ixLP rfl) i0 ed_v, ed_op (op_ixLP rfl) i0 ed_v, ed_op (op_ixLP rfl) i1 ed_v, ed_op (op_ixLP rfl) i1 ed_v⟩
      refine b_asg (ed_call (callP (c * odd b, o * odd a) l1) (ea_cons (ed_call (callP (c, odd b) t1) (ea_cons (ed_var rfl) (ea_cons (pt rfl).2.2.2 ea_nil))) (ea_cons (ed_call (callP (o, odd a) t2) (ea_cons (ed_var rfl) (ea_cons (pt rfl).2.1 ea_nil))) ea_nil))) ?_
      refine b_asg (ed_call (callP (o * even a, c * even b) l2) (ea_cons (ed_call (callP (o, even a) t3) (ea_cons (ed_var rfl) (ea_cons (pt rfl).1 ea_nil))) (ea_cons (ed_call (callP (c, even b) t4) (ea_cons (ed_var rfl) (ea_cons (pt rfl).2.2.1 ea_nil))) ea_nil))) ?_
      have hs : ∀ l f : L, (optL l f).isSome = isZ l := fun l f => by
        unfold optL
        cases isZ l <;> rfl
      show BdD _ _ (dV (.bl res))
      rw [er, ← hs l f, ← hs l' f']
      exact b_ret (ed_andV (ed_optIs (ed_quo q1 (ed_var rfl) (ed_var rfl))) fun _ => ed_optIs (ed_quo q2 (ed_var rfl) (ed_var rfl)))
  · have e0 : even a * odd b - odd a * even b = 0 := isZ_iff.mp (by simpa using e)
    refine b_if (eb_and (eb_eqNo (p := a) (ed_var rfl)) fun _ => eb_eqNo (p := b) (ed_var rfl)) (fun e1 => ?_) (fun e1 => ?_)
    · rw [Bool.and_eq_true, isZ_iff, isZ_iff] at e1
      show BdD _ _ (dV (.bl res))
      rw [non e0 e1.1 e1.2]
      exact b_ret (ed_andV (ed_op op_eqLot (ed_var rfl) ed_no) fun _ => ed_op op_eqLot (ed_var rfl) ed_no)
    · have nz : ¬ (a = 0 ∧ b = 0) := fun z => by
        rw [isZ_iff.mpr z.1, isZ_iff.mpr z.2] at e1
        cases e1
      obtain ⟨g, u, v, x, y, f, l, bs, q1, tm, er⟩ := along e0 nz
      refine b_asg (d1 := dLst K [dLot K x, dLot K y]) (ed_op (op_ixTP (by rfl)) (ed_call (callP (a, b, g, u, v, x, y) bs) (ea_cons (ed_var rfl) (ea_cons (ed_var rfl) ea_nil))) ed_v) ?_
      refine b_asg (d1 := dV (.int (if isZ x then 1 else 0))) (ed_if (eb_neNoL (p := x) (ed_op (op_ixLP (by rfl)) (ed_var rfl) ed_v)) (fun e => ?_) (fun e => ?_)) ?_
      · have e : isZ x = false := by simpa using e
        rw [e]
        exact ed_v
      · have e : isZ x = true := by simpa using e
        rw [e]
        exact ed_v
      have hpr : ∀ p q : L, atI [dLot K p, dLot K q] (if isZ x then 1 else 0) = some (dLot K (if isZ x then q else p)) := fun p q => by
        cases isZ x <;> rfl
      refine b_asg (ed_quo q1 (ed_op (op_ixLP (hpr c o)) (ed_lstP (ea_cons (ed_var rfl) (ea_cons (ed_var rfl) ea_nil)) (by simp)) (ed_var rfl)) (ed_op (op_ixLP (hpr x y)) (ed_var rfl) (ed_var rfl))) ?_
      show BdD _ _ (dV (.bl res))
      rw [er]
      cases hl : isZ l with
      | false =>
        have eo : optL l f = none := by
          unfold optL
          rw [hl]
          rfl
        rw [eo]
        exact b_ret (ed_andV (b1 := false) (b2 := eqL (f * x) c && eqL (f * y) o) (ed_optIs (o := none) (ed_var rfl)) fun z => nomatch z)
      | true =>
        have eo : optL l f = some f := by
          unfold optL
          rw [hl]
          rfl
        rw [eo]
        obtain ⟨m1, m2⟩ := tm (isZ_iff.mp hl)
        exact b_ret (ed_andV (b1 := true) (ed_optIs (o := some f) (ed_var rfl)) fun _ => ed_op op_eqLLd (ed_lstP (ea_cons (ed_call (callP (f, x) m1) (ea_cons (ed_var rfl) (ea_cons (ed_op (op_ixLP (by rfl)) (ed_var rfl) ed_v) ea_nil))) (ea_cons (ed_call (callP (f, y) m2) (ea_cons (ed_var rfl) (ea_cons (ed_op (op_ixLP (by rfl)) (ed_var rfl) ed_v) ea_nil))) ea_nil)) (by simp)) (ed_lstP (ea_cons (ed_var rfl) (ea_cons (ed_var rfl) ea_nil)) (by simp)))
end
end K65

/-! K65LJ: the well, from which is drawn -/
namespace K65
open PySem PySem.Spec PyProof.Rows L2
structure WellAt (W : Addr) (B : Nat) (H : Hp) : Prop where
  ex : ∃ a b c : Int, H W = some (.lst [.int a, .int b, .int c]) ∧ 0 ≤ a ∧ 0 ≤ b ∧ b < 2147483647 ∧ 0 ≤ c ∧ c ≤ B
structure WkR (W : Addr) (n : Nat) (H H' : Hp) : Prop where
  rest : ∀ b o, b ≠ W → H b = some o → H' b = some o
  well : ∀ B, WellAt W B H → WellAt W (B + n) H'
theorem WellAt.mono {W : Addr} {B C : Nat} {H : Hp} (h : WellAt W B H) (hc : B ≤ C) : WellAt W C H := by
  obtain ⟨a, b, c, h1, h2, h3, h4, h5, h6⟩ := h.ex
  exact ⟨a, b, c, h1, h2, h3, h4, h5, by omega⟩
theorem WellAt.same {W : Addr} {B : Nat} {H H' : Hp} (e : Same H H') (h : WellAt W B H) : WellAt W B H' := by
  obtain ⟨a, b, c, h1, h2⟩ := h.ex
  exact ⟨a, b, c, e _ _ h1, h2⟩
theorem WkR.of_same {W : Addr} {H H' : Hp} (e : Same H H') : WkR W 0 H H' := ⟨fun b o _ h => e _ _ h, fun B h => h.same e⟩
theorem WkR.trans {W : Addr} {n m : Nat} {H H1 H2 : Hp} (a : WkR W n H H1) (b : WkR W m H1 H2) : WkR W (n + m) H H2 := ⟨fun c o ne h => b.rest c o ne (a.rest c o ne h), fun B h => by
  have := b.well _ (a.well B h)
  rw [Nat.add_assoc] at this
  exact this⟩
theorem WkR.mono {W : Addr} {n m : Nat} {H H1 : Hp} (a : WkR W n H H1) (h : n ≤ m) : WkR W m H H1 := ⟨a.rest, fun B hb => (a.well B hb).mono (by omega)⟩
theorem WkR.keep {W : Addr} {n B : Nat} {H H' : Hp} (c : WkR W n H H') (w : WellAt W B H) : Keep H H' := fun b o h ne => by
  obtain ⟨x, y, z, h1, _⟩ := w.ex
  refine c.rest b o (fun e => ?_) h
  subst e
  rw [h1] at h
  exact ne _ (Option.some.inj h).symm
def StW (W : Addr) (d : DP) : Prop := ∀ v H H' n B, WellAt W B H → WkR W n H H' → d.is v H → d.is v H'
theorem stW_stiff {W : Addr} {d : DP} (h : d.Stiff) : StW W d := fun v H H' n B w c q => h v H H' (c.keep w) q
theorem allIs_wk {W : Addr} {H H' : Hp} {n B : Nat} {dl : List DP} {vs : List V} (hs : ∀ d ∈ dl, StW W d) (w : WellAt W B H) (c : WkR W n H H') (h : AllIs dl vs H) : AllIs dl vs H' := by
  induction h with
  | nil => exact .nil
  | cons a _ ih => exact .cons (hs _ List.mem_cons_self _ _ _ _ _ w c a) (ih (fun d hd => hs d (List.mem_cons_of_mem _ hd)) w c)
/-- a list whose first thing is no number -/
theorem stW_lst {K : PySem.W.Frag} {W : Addr} {d0 : DP} {dl : List DP} (hn : ∀ v H, d0.is v H → ∀ i, v ≠ .int i) (hs : ∀ d ∈ d0 :: dl, StW W d) : StW W (dLst K (d0 :: dl)) := fun v H H' n B w c q => by
  obtain ⟨a, vs, rfl, h2, h3⟩ := q
  obtain ⟨x, y, z, hw, _⟩ := w.ex
  refine ⟨a, vs, rfl, ?_, allIs_wk hs w c h3⟩
  rcases h2 with (h | ⟨o, h⟩) | h
  · refine .inl (.inl (c.rest _ _ (fun e => ?_) h))
    subst e
    rw [hw] at h
    cases h
    cases h3 with
    | cons h4 _ => exact hn _ _ h4 x rfl
  · refine .inl (.inr ⟨o, c.rest _ _ (fun e => ?_) h⟩)
    subst e
    rw [hw] at h
    cases h
  · exact .inr h
theorem stW_lot {K : PySem.W.Frag} {W : Addr} {p : L} : StW W (dLot K p) := stW_stiff stiff_lot
theorem lot_noint {K : PySem.W.Frag} {p : L} : ∀ v H, (dLot K p).is v H → ∀ i, v ≠ .int i := fun v H h i e => by
  obtain ⟨t, _, a, kvs, rfl, _⟩ := h
  cases e
theorem stW_V {W : Addr} {v : V} : StW W (dV v) := stW_stiff stiff_V
theorem stW_ex {W : Addr} {α : Type} {S : α → Prop} {D : α → DP} (h : ∀ x, S x → StW W (D x)) : StW W (dEx S D) := fun v H H' n B w c q => by
  obtain ⟨x, h1, h2⟩ := q
  exact ⟨x, h1, h x h1 _ _ _ _ _ w c h2⟩
/-- the well is not drawn from while all stands -/
def StL (W : Addr) (ds : List (Option DP)) : Prop := ∀ (i : Nat) (d : DP), ds[i]? = some (some d) → StW W d
theorem stL_nil {W : Addr} : StL W [] := fun i d h => by simp at h
theorem stL_none {W : Addr} {l : List (Option DP)} (h : StL W l) : StL W (none :: l) := fun i d e => by
  cases i with
  | zero => cases e
  | succ i => exact h i d (by simpa using e)
theorem stL_some {W : Addr} {d0 : DP} {l : List (Option DP)} (h0 : StW W d0) (h : StL W l) : StL W (some d0 :: l) := fun i d e => by
  cases i with
  | zero =>
    have e := Option.some.inj (Option.some.inj e)
    subst e
    exact h0
  | succ i => exact h i d (by simpa using e)
theorem StL.set {W : Addr} {l : List (Option DP)} {d0 : DP} (h : StL W l) (h0 : StW W d0) (i : Nat) : StL W (l.set i (some d0)) := fun j d e => by
  rw [List.getElem?_set] at e
  split at e
  · split at e
    · have e := Option.some.inj (Option.some.inj e)
      subst e
      exact h0
    · cases e
  · exact h j d e
theorem Sl.wk {σ : L2.St} {ds : List (Option DP)} {H H' : Hp} {W : Addr} {n B : Nat} (s : Sl σ ds H) (st : StL W ds) (w : WellAt W B H) (c : WkR W n H H') : Sl σ ds H' := ⟨s.len, fun i d hd => by
  obtain ⟨v, h1, h2⟩ := s.at' i d hd
  exact ⟨v, h1, st i d hd _ _ _ _ _ w c h2⟩⟩
def EvW (W : Addr) (n : Nat) (te : TE) (ds : List (Option DP)) (d : DP) : Prop := ∀ σ H B, Sl σ ds H → WellAt W B H → B + n ≤ 1000000 → ∀ Q : VK, (∀ v H', WkR W n H H' → d.is v H' → Q v H') → te σ H Q
def EvBW (W : Addr) (n : Nat) (tt : TT) (ds : List (Option DP)) : Prop := ∀ σ H B, Sl σ ds H → WellAt W B H → B + n ≤ 1000000 → ∀ Q : Bool → Hp → Prop, (∀ b H', WkR W n H H' → Q b H') → tt σ H Q
def EvAW (W : Addr) (n : Nat) (ta : TA) (ds : List (Option DP)) (dl : List DP) : Prop := ∀ σ H B, Sl σ ds H → WellAt W B H → B + n ≤ 1000000 → ∀ Q : List V → Hp → Prop, (∀ vs H', WkR W n H H' → AllIs dl vs H' → Q vs H') → ta σ H Q
def BdW (W : Addr) (n : Nat) (ts : TS) (ds : List (Option DP)) (d : DP) : Prop := ∀ (D : Ends) (σ : L2.St) (H : Hp) (B : Nat), Sl σ ds H → WellAt W B H → B + n ≤ 1000000 → (∀ v H', WkR W n H H' → d.is v H' → D.rt v H') → ts D σ H
def CallW (W : Addr) (n : Nat) (sp : Sp) (dl : List DP) (d : DP) : Prop := ∀ vs H B, AllIs dl vs H → WellAt W B H → B + n ≤ 1000000 → ∀ (Q : VK) (E : XK), (∀ v H', WkR W n H H' → d.is v H' → Q v H') → sp (.ref W :: vs) H Q E
def spW {α : Type} (n : Nat) (pre : α → Prop) (dl : Addr → α → List DP) (d : α → DP) : Sp := fun vs H Q _ => ∃ a W B us, pre a ∧ vs = .ref W :: us ∧ AllIs (dl W a) us H ∧ WellAt W B H ∧ B + n ≤ 1000000 ∧ ∀ v H', WkR W n H H' → (d a).is v H' → Q v H'
section
variable {P : Program} {w : World} {mg : Str → Option Value} {base : Heap} {K : PySem.W.Frag} {ds ds' ds1 : List (Option DP)} {te ta tb tl th : TE} {tas : TA} {tt : TT} {t u : TS} {a b d d1 d2 : DP} {dl : List DP} {W : Addr} {n m : Nat}
theorem callW {α : Type} {pre : α → Prop} {dl : Addr → α → List DP} {d : α → DP} (x : α) (h : pre x) : CallW W n (spW n pre dl d) (dl W x) (d x) := fun vs H B hv hw hB Q E q => ⟨x, W, B, vs, h, rfl, hv, hw, hB, q⟩
theorem ew_of (h : EvD te ds d) : EvW W 0 te ds d := fun σ H B s w hB Q q => h σ H s Q fun v H' e hv => q v H' (WkR.of_same e) hv
theorem EvW.le (h : EvW W n te ds d) (hm : n ≤ m) : EvW W m te ds d := fun σ H B s w hB Q q => h σ H B s w (by omega) Q fun v H' c hv => q v H' (c.mono hm) hv
theorem EvW.imp (h : EvW W n te ds d) (i : DP.imp d d') : EvW W n te ds d' := fun σ H B s w hB Q q => h σ H B s w hB Q fun v H' c hv => q v H' c (i v H' hv)
theorem eaw_nil : EvAW W 0 tNil ds [] := fun σ H B s w hB Q q => q [] H (WkR.of_same (Same.refl H)) .nil
theorem eaw_cons {tr : TA} (st : StL W ds) (sd : StW W d) (h : EvW W n te ds d) (hr : EvAW W m tr ds dl) : EvAW W (n + m) (tCons te tr) ds (d :: dl) := fun σ H B s w hB Q q =>
  h σ H B s w (by omega) _ fun v H1 c1 hv => hr σ H1 (B + n) (s.wk st w c1) (c1.well B w) (by omega) _ fun vs H2 c2 hvs => q (v :: vs) H2 (c1.trans c2) (.cons (sd _ _ _ _ _ (c1.well B w) c2 hv) hvs)
theorem ew_call {sp : Sp} {E : XK} (hs : CallP sp dl d) (h : EvAW W n tas ds dl) : EvW W n (tCall sp [] E tas) ds d := fun σ H B s w hB Q q =>
  h σ H B s w hB _ fun vs H1 c1 hvs => by
    show sp (vs ++ []) H1 Q E
    rw [List.append_nil]
    exact hs vs H1 hvs Q E fun v H2 e2 hv => q v H2 (c1.trans (WkR.of_same e2)) hv
theorem ew_callW {sp : Sp} {E : XK} {i : Nat} (hs : CallW W m sp dl d) (h0 : ds[i]? = some (some (dV (.ref W)))) (h : EvAW W n tas ds dl) : EvW W (n + m) (tCall sp [] E (tCons (tVar i) tas)) ds d := fun σ H B s w hB Q q => by
  obtain ⟨v, h1, h2⟩ := s.at' i _ h0
  cases h2
  refine ⟨_, h1, h σ H B s w (by omega) _ fun vs H1 c1 hvs => ?_⟩
  show sp ((V.ref W :: vs) ++ []) H1 Q E
  rw [List.append_nil]
  exact hs vs H1 (B + n) hvs (c1.well B w) (by omega) Q E fun v H2 c2 hv => q v H2 (c1.trans c2) hv
theorem ew_op {r : R2} (st : StL W ds) (sa : StW W a) (hr : OpP r a b d) (ha : EvW W n ta ds a) (hb : EvW W m tb ds b) : EvW W (n + m) (tOp r ta tb) ds d := fun σ H B s w hB Q q =>
  ha σ H B s w (by omega) _ fun x H1 c1 hx => hb σ H1 (B + n) (s.wk st w c1) (c1.well B w) (by omega) _ fun y H2 c2 hy => hr x y H2 (sa _ _ _ _ _ (c1.well B w) c2 hx) hy Q fun v H3 e3 hv => q v H3 ((c1.trans c2).trans (WkR.of_same e3)) hv
theorem opP_l {α : Type} {r : R2} {S : α → Prop} {D : α → DP} (h : ∀ x, S x → OpP r (D x) b d) : OpP r (dEx S D) b d := fun x y H hx hy Q q => by
  obtain ⟨z, h1, h2⟩ := hx
  exact h z h1 x y H h2 hy Q q
theorem opP_r {α : Type} {r : R2} {S : α → Prop} {D : α → DP} (h : ∀ x, S x → OpP r a (D x) d) : OpP r a (dEx S D) d := fun x y H hx hy Q q => by
  obtain ⟨z, h1, h2⟩ := hy
  exact h z h1 x y H hx h2 Q q
theorem OpP.imp {r : R2} {d' : DP} (h : OpP r a b d) (i : DP.imp d d') : OpP r a b d' := fun x y H hx hy Q q => h x y H hx hy Q fun v H' e hv => q v H' e (i v H' hv)
/-- a yes or no -/
def dBool : DP := dEx (fun _ : Bool => True) fun b => dV (.bl b)
theorem ebw_test (h : EvW W n te ds dBool) : EvBW W n (tTest te) ds := fun σ H B s w hB Q q => h σ H B s w hB _ fun v H1 c1 hv => by
  obtain ⟨b, _, h2⟩ := hv
  exact ⟨b, h2, q b H1 c1⟩
theorem ew_if (st : StL W ds) (h : EvBW W n tt ds) (h1 : EvW W m ta ds d) (h2 : EvW W m tb ds d) : EvW W (n + m) (tIf tt ta tb) ds d := fun σ H B s w hB Q q => h σ H B s w (by omega) _ fun b H1 c1 => by
  cases b with
  | true => exact h1 σ H1 (B + n) (s.wk st w c1) (c1.well B w) (by omega) Q fun v H2 c2 hv => q v H2 (c1.trans c2) hv
  | false => exact h2 σ H1 (B + n) (s.wk st w c1) (c1.well B w) (by omega) Q fun v H2 c2 hv => q v H2 (c1.trans c2) hv
theorem bw_ret (h : EvW W n te ds d) : BdW W n (tRet te) ds d := fun D σ H B s w hB q => h σ H B s w hB _ fun v H1 c1 hv => q v H1 c1 hv
theorem bw_asg {i : Nat} (st : StL W ds) (h : EvW W n te ds d1) (k : BdW W m u (ds.set i (some d1)) d) : BdW W (n + m) (tSeq (tAsg te (gName i)) u) ds d := fun D σ H B s w hB q =>
  h σ H B s w (by omega) _ fun v H1 c1 hv => k D (σ.set i (some v)) H1 (B + n) ((s.wk st w c1).set i hv) (c1.well B w) (by omega) fun v2 H2 c2 hv2 => q v2 H2 (c1.trans c2) hv2
theorem BdW.le (h : BdW W n t ds d) (hm : n ≤ m) : BdW W m t ds d := fun D σ H B s w hB q => h D σ H B s w (by omega) fun v H' c hv => q v H' (c.mono hm) hv
theorem bw_open {i : Nat} {α : Type} {S : α → Prop} {D : α → DP} (h : ds[i]? = some (some (dEx S D))) (k : ∀ x, S x → BdW W n u (ds.set i (some (D x))) d) : BdW W n u ds d := fun Dn σ H B s w hB q => by
  obtain ⟨v, h1, x, hx, h2⟩ := s.at' i _ h
  refine k x hx Dn σ H B ?_ w hB q
  have := s.set i (v := v) h2
  have e : σ.set i (some v) = σ := by
    apply List.ext_getElem?
    intro j
    rw [List.getElem?_set]
    by_cases z : i = j
    · subst z
      rw [if_pos rfl, if_pos (List.getElem?_eq_some_iff.mp h1).1, h1]
    · rw [if_neg z]
  rw [e] at this
  exact this
theorem fn_okW {α : Type} {pre : α → Prop} {dl : Addr → α → List DP} {d : α → DP} {x : Str} {i n : Nat} {ps N : List Str} {k : Nat} (F : FnF K mg x i ps) (S : FnScope N ps (C8.fnScope (topS i))) (hl : ∀ W a, (dl W a).length + 1 = ps.length)
    (body : FnScope N ps (C8.fnScope (topS i)) → ∀ (cdv : Value) (A : Around) (outer : List Env) (s : Shared) (H : Hp) (E : XK) (f : Addr), Room k (A.deeper (envOfC x (C8.fnScope (topS i)) s.heap.objs.size f cdv)) →
      ∃ t, PSs (cxOf C8.CX0 P w K mg base N x (C8.fnScope (topS i)) f cdv A outer s H E).nox (C8.fnBody (topS i)) t ∧ ∀ a, pre a → ∀ W, BdW W n t (slots N (dV (.ref W) :: dl W a)) (d a)) : C8.Cal P w K mg base (k + 1) x (spW n pre dl d) [] := by
  obtain ⟨f, fd, D, b⟩ := F.ex
  refine C8.cal0 D b .nil S (fun vs H Q E h => ?_) (fun cdv A outer s H vs Q E hr h => ?_)
  · obtain ⟨a, W, B, us, _, rfl, h1, _⟩ := h
    rw [List.length_cons, h1.length, hl]
  · obtain ⟨t, h1, h2⟩ := body S cdv A outer s H E f hr
    refine ⟨t, h1, ?_⟩
    obtain ⟨a, W, B, us, hp, rfl, ha, hw, hB, q⟩ := h
    exact h2 a hp W { nx := fun _ H' => Q .non H', rt := Q } _ H B (sl_start (.cons rfl ha)) hw hB q
/-- a number drawn -/
def dUpTo (c : Int) : DP := dEx (fun r : Int => 0 ≤ r ∧ r < c) fun r => dV (.int r)
theorem stW_upTo {c : Int} : StW W (dUpTo c) := stW_ex fun _ _ => stW_V
theorem log_lt {i : Int} {k : Nat} (h : i.natAbs < 2 ^ k) : i.natAbs.log2 ≤ k := by
  by_cases z : i.natAbs = 0
  · rw [z]
    exact Nat.zero_le _
  · exact Nat.le_of_lt ((Nat.log2_lt z).mpr h)
theorem cmul_lt {i j : Int} (hi : i.natAbs < 2 ^ 100) (hj : j.natAbs < 2 ^ 100) : CMulW i j := by
  unfold CMulW
  have := log_lt hi
  have := log_lt hj
  omega
end
end K65

/-! K65LK: draws -/
namespace K65
open PySem PySem.Spec PyProof.Rows L2
section
variable {P : Program} {w : World} {mg : Str → Option Value} {base : Heap} {K : PySem.W.Frag} {ds ds' ds1 : List (Option DP)} {te ta tb tl th : TE} {tas : TA} {tt : TT} {t u : TS} {a b d d1 d2 : DP} {dl : List DP} {W : Addr} {n m : Nat}
theorem op_modP {i j : Int} (hj : 0 < j) : OpP (rI (fun _ j => j ≠ 0) fun i j => .int (i.fmod j)) (dV (.int i)) (dV (.int j)) (dV (.int (i % j))) := fun x y H hx hy Q q => ⟨i, j, hx, hy, by show j ≠ 0; omega, q _ H (Same.refl H) (by show V.int (i.fmod j) = V.int (i % j); rw [Int.fmod_eq_emod_of_nonneg _ (by omega)])⟩
theorem op_divP {i j : Int} (hj : 0 < j) (hj2 : j < 1073741824) : OpP (rI CDivA fun i j => .int (i.fdiv j)) (dV (.int i)) (dV (.int j)) (dV (.int (i / j))) := fun x y H hx hy Q q => ⟨i, j, hx, hy, cdiv_small (by omega) (by omega), q _ H (Same.refl H) (by show V.int (i.fdiv j) = V.int (i / j); rw [Int.fdiv_eq_ediv_of_nonneg _ (by omega)])⟩
theorem setw {σ : L2.St} {H : Hp} {D : Ends} {xs : List V} {k : Nat} {v : Int} (h : EvD te ds (dV (.int v))) (sl : Sl σ ds H) (hv0 : σ[0]? = some (some (.ref W))) (hW : H W = some (.lst xs)) (hk : k < xs.length)
    (q : ∀ H', Same H H' → D.nx σ (upd H' W (.lst (xs.set k (.int v))))) : tAsg te (gSub (tVar 0) (tC (.int (k : Int))) rSetL) D σ H :=
  h σ H sl _ fun x H1 e1 hx => by
    cases hx
    exact ⟨_, hv0, W, xs, (k : Int), k, rfl, rfl, e1 _ _ hW, (by rw [ixN_nat (by omega) (by omega)]; exact congrArg some (by omega)), q H1 e1⟩
theorem seqI {t u : TS} {D : Ends} {σ : L2.St} {H : Hp} (h : t { D with nx := u D } σ H) : tSeq t u D σ H := h
theorem asgCB {σ : L2.St} {H : Hp} {D : Ends} {r : List V → Hp → VK → Prop} {g : TG} (h : EvA tas ds dl) (sl : Sl σ ds H) (q : ∀ vs H', Same H H' → AllIs dl vs H' → r vs H' fun x H1 => g x σ H1 D.nx) : tAsg (tCB r tas) g D σ H := h σ H sl _ q
theorem wk_upd {H H1 : Hp} {xs ys : List V} {n : Nat} (e : Same H H1) (hw : ∀ B, WellAt W B H → WellAt W (B + n) (upd H1 W (.lst ys))) : WkR W n H (upd H1 W (.lst ys)) := ⟨fun b o ne h => by
  rw [upd_ne ne]
  exact e _ _ h, hw⟩
variable (F : Facts K mg)
include F
theorem c__law_take : C8.Cal P w K mg base 1 "_law_take" (spW 1 (fun c : Int => 0 < c ∧ c < 1073741824) (fun W c => [dV (.int c)]) (fun c => dUpTo c)) [] := by
  have mdivmod := F.m_divmod
  have mint := F.m_int
  refine fn_okW F.f__law_take (N := ["_law_well_here", "_law_count", "_law_digit"]) (C8.fnScope_by (by decide +kernel)) (fun _ _ => rfl) fun sc cdv A outer s H E f hr => ⟨_, (pss_cons (ps_if (pt_cmpR op_gt (pe_ix (r := rIxL K) ix_list (pv 0) pe_int (fun _ _ => rfl)) pe_int (nomark _)) (pss_cons (ps_asg (pe_callB call_divmodW (by rfl) mdivmod (by decide +kernel) (pa_cons (pe_ix (r := rIxL K) ix_list (pv 0) pe_int (fun _ _ => rfl)) (pa_cons (pv 1) pa_nil))) (pg_tup rfl (pgs_cons (pg_sub (pv 0) pe_int set_list) (pgs_cons (pg_name (i := 2) sc.nd rfl (Or.inl rfl)) pgs_nil)))) (pss_one (ps_ret (pv 2)))) pss_nil) (pss_cons (ps_asg (pe_op op_add (pe_ix (r := rIxL K) ix_list (pv 0) pe_int (fun _ _ => rfl)) pe_int) (pg_sub (pv 0) pe_int set_list)) (pss_cons (ps_asg (pe_op op_modN (pe_callTy call_int1 (by rfl) mint (by decide +kernel) (pa_cons (pe_op op_add (pe_op op_add (pe_op op_mulW (pe_ix (r := rIxL K) ix_list (pv 0) pe_int (fun _ _ => rfl)) (pe_op op_add pe_int (pe_op op_mulW pe_int (pe_ix (r := rIxL K) ix_list (pv 0) pe_int (fun _ _ => rfl))))) (pe_op op_mulW pe_int (pe_ix (r := rIxL K) ix_list (pv 0) pe_int (fun _ _ => rfl)))) pe_int) pa_nil)) pe_int) (pg_sub (pv 0) pe_int set_list)) (pss_one (ps_ret (pe_op op_modN (pe_callTy call_int1 (by rfl) mint (by decide +kernel) (pa_cons (pe_op op_fdivX (pe_op op_modN (pe_callTy call_int1 (by rfl) mint (by decide +kernel) (pa_cons (pe_op op_mulW (pe_ix (r := rIxL K) ix_list (pv 0) pe_int (fun _ _ => rfl)) (pe_op op_add (pe_ix (r := rIxL K) ix_list (pv 0) pe_int (fun _ _ => rfl)) pe_int)) pa_nil)) pe_int) pe_int) pa_nil)) (pv 1))))))), fun q hq => ?_⟩
  obtain ⟨h0, h1⟩ := hq
  intro W D σ H B s w hB fin
  obtain ⟨x, y, z, hW, x0, y0, y1, z0, z1⟩ := w.ex
  obtain ⟨v0, hv0, e0⟩ := s.at' 0 _ rfl
  obtain ⟨v1, hv1, e1⟩ := s.at' 1 (dV (.int q)) rfl
  cases e0
  cases e1
  have hlen : σ.length = 3 := s.len
  have sl : ∀ {x y z : Int} {H : Hp}, H W = some (.lst [.int x, .int y, .int z]) → Sl σ [some (dLst K [dV (.int x), dV (.int y), dV (.int z)]), some (dV (.int q)), none] H := fun {x y z H} h => ⟨hlen, fun i d hd => by
    match i, hd with
    | 0, hd =>
      have hd := Option.some.inj (Option.some.inj hd)
      subst hd
      exact ⟨_, hv0, W, _, rfl, SqL.of h, .cons rfl (.cons rfl (.cons rfl .nil))⟩
    | 1, hd =>
      have hd := Option.some.inj (Option.some.inj hd)
      subst hd
      exact ⟨_, hv1, rfl⟩
    | 2, hd => cases hd
    | i + 3, hd => simp at hd⟩
  have get : ∀ {x y z : Int}, EvD (tOp (rIxL K) (tVar 0) (tC (.int 0))) [some (dLst K [dV (.int x), dV (.int y), dV (.int z)]), some (dV (.int q)), none] (dV (.int x)) ∧ EvD (tOp (rIxL K) (tVar 0) (tC (.int 1))) [some (dLst K [dV (.int x), dV (.int y), dV (.int z)]), some (dV (.int q)), none] (dV (.int y)) ∧ EvD (tOp (rIxL K) (tVar 0) (tC (.int 2))) [some (dLst K [dV (.int x), dV (.int y), dV (.int z)]), some (dV (.int q)), none] (dV (.int z)) := fun {x y z} =>
    ⟨ed_op (op_ixLP rfl) (ed_var rfl) ed_v, ed_op (op_ixLP rfl) (ed_var rfl) ed_v, ed_op (op_ixLP rfl) (ed_var rfl) ed_v⟩
  refine (eb_test (ed_op (op_I0 (g := fun i j => .bl (decide (j < i)))) (get (x := x) (y := y) (z := z)).1 ed_v)) σ H (sl hW) _ fun H1 eH1 => ?_
  have hW1 := eH1 _ _ hW
  cases hc : decide ((0 : Int) < x) with
  | true =>
    rw [if_pos rfl]
    have hx := of_decide_eq_true hc
    refine seqI (asgCB (ea_cons (get (x := x) (y := y) (z := z)).1 (ea_cons (ed_var (i := 1) rfl) ea_nil)) (sl hW1) fun us H2 e2 hus => ?_)
    cases hus with
    | cons a1 r1 => cases r1 with
      | cons a2 r2 =>
        cases r2
        cases a1
        cases a2
        refine ⟨x, q, rfl, ⟨h0, (cdiv_small (i := x) (by omega) (by omega)).2⟩, fun p hp => ?_⟩
        have e3 : Same H2 (upd H2 p (.tup [.int (x / q), .int (x % q)])) := same_new hp
        have hW3 := e3 _ _ (e2 _ _ hW1)
        have m1 := Int.emod_nonneg x (show q ≠ 0 by omega)
        have m2 := Int.emod_lt_of_pos x h0
        refine ⟨p, _, rfl, SqT.of upd_same, rfl, .int (x / q), [.int (x % q)], rfl, .ref W, hv0, W, _, 0, 0, rfl, rfl, hW3, rfl, .int (x % q), [], rfl, rfl, .int (x % q), by simp [hlen], fin _ _ ⟨fun b o ne h => ?_, fun B' hB' => ?_⟩ ⟨x % q, ⟨m1, m2⟩, rfl⟩⟩
        · rw [upd_ne ne]
          exact e3 _ _ (e2 _ _ (eH1 _ _ h))
        · obtain ⟨x', y', z', hW', k⟩ := hB'.ex
          rw [hW] at hW'
          cases hW'
          exact ⟨x / q, y, z, upd_same, Int.ediv_nonneg x0 (by omega), y0, y1, z0, by omega⟩
  | false =>
    rw [if_neg Bool.false_ne_true]
    have hzB : z ≤ 1000000 := by omega
    refine seqI (setw (k := 2) (v := z + 1) (ed_op op_I0 (get (x := x) (y := y) (z := z)).2.2 ed_v) (sl hW1) hv0 hW1 (by simp) fun H2 e2 => ?_)
    have hW2 : (upd H2 W (.lst ([.int x, .int y, .int z].set 2 (.int (z + 1))))) W = some (.lst [.int x, .int y, .int (z + 1)]) := upd_same
    have hr2 : ∀ b o, b ≠ W → H b = some o → (upd H2 W (.lst ([.int x, .int y, .int z].set 2 (.int (z + 1))))) b = some o := fun b o ne h => by
      rw [upd_ne ne]
      exact e2 _ _ (eH1 _ _ h)
    generalize (upd H2 W (.lst ([.int x, .int y, .int z].set 2 (.int (z + 1))))) = H3 at *
    have g := get (x := x) (y := y) (z := z + 1)
    have small : ∀ i : Int, 0 ≤ i → i < 10000000000 → i.natAbs < 2 ^ 100 := fun i h1 h2 => Nat.lt_trans (show i.natAbs < 10000000000 by omega) (by decide)
    have y2 := Int.emod_nonneg (y * (16807 + 2 * (z + 1)) + 7919 * (z + 1) + 3) (show (2147483647 : Int) ≠ 0 by decide)
    have y3 := Int.emod_lt_of_pos (y * (16807 + 2 * (z + 1)) + 7919 * (z + 1) + 3) (show (0 : Int) < 2147483647 by decide)
    refine seqI (setw (k := 1) (v := (y * (16807 + 2 * (z + 1)) + 7919 * (z + 1) + 3) % 2147483647) (ed_op (op_modP (by decide)) (ed_cb rc_int (ea_cons (ed_op op_I0 (ed_op op_I0 (ed_op (op_I (cmul_lt (small _ y0 (by omega)) (small _ (by omega) (by omega)))) g.2.1 (ed_op op_I0 ed_v (ed_op (op_I (cmul_lt (small _ (by decide) (by decide)) (small _ (by omega) (by omega)))) ed_v g.2.2))) (ed_op (op_I (cmul_lt (small _ (by decide) (by decide)) (small _ (by omega) (by omega)))) ed_v g.2.2)) ed_v) ea_nil)) ed_v) (sl hW2) hv0 hW2 (by simp) fun H4 e4 => ?_)
    generalize (y * (16807 + 2 * (z + 1)) + 7919 * (z + 1) + 3) % 2147483647 = y' at *
    have hW5 : (upd H4 W (.lst ([.int x, .int y, .int (z + 1)].set 1 (.int y')))) W = some (.lst [.int x, .int y', .int (z + 1)]) := upd_same
    have hr5 : ∀ b o, b ≠ W → H b = some o → (upd H4 W (.lst ([.int x, .int y, .int (z + 1)].set 1 (.int y')))) b = some o := fun b o ne h => by
      rw [upd_ne ne]
      exact e4 _ _ (hr2 _ _ ne h)
    generalize (upd H4 W (.lst ([.int x, .int y, .int (z + 1)].set 1 (.int y')))) = H5 at *
    have g5 := get (x := x) (y := y') (z := z + 1)
    refine (ed_op (op_modP h0) (ed_cb rc_int (ea_cons (ed_op (op_divP (by decide) (by decide)) (ed_op (op_modP (by decide)) (ed_cb rc_int (ea_cons (ed_op (op_I (cmul_lt (small _ y2 (by omega)) (small _ (by omega) (by omega)))) g5.2.1 (ed_op op_I0 g5.2.1 ed_v)) ea_nil)) ed_v) ed_v) ea_nil)) (ed_var (i := 1) rfl)) σ H5 (sl hW5) _ fun v H6 e6 hv => ?_
    cases hv
    refine fin _ _ ⟨fun b o ne h => e6 _ _ (hr5 b o ne h), fun B' hB' => ?_⟩ ⟨_, ⟨Int.emod_nonneg _ (by omega), Int.emod_lt_of_pos _ h0⟩, rfl⟩
    obtain ⟨x', y'', z', hW', k⟩ := hB'.ex
    rw [hW] at hW'
    cases hW'
    exact ⟨x, y', z + 1, e6 _ _ hW5, x0, y2, y3, by omega, by omega⟩
end
end K65

/-! K65LL: numbers and rows drawn -/
namespace K65
open PySem PySem.Spec PyProof.Rows L2
def NumOk (q : Rat) : Prop := q ≠ 0 ∧ ∃ z : Int, (z : Rat) = ((84 : Nat) : Rat) * q ∧ z.natAbs ≤ 2 ^ 37
theorem num_of {t b : Int} (hb : b = 1 ∨ b = 2 ∨ b = 3 ∨ b = 4 ∨ b = 7) (ht : t ≠ 0) (h : t.natAbs ≤ 1000000000) : NumOk (Rat.divInt t b) := by
  have key : ∀ (b m : Int), b ≠ 0 → b * m = 84 → m.natAbs ≤ 84 → NumOk (Rat.divInt t b) := fun b m h0 hm hm2 => by
    refine ⟨fun e => ?_, t * m, ?_, ?_⟩
    · have hbr : (b : Rat) ≠ 0 := fun z => h0 (by exact_mod_cast z)
      rw [Rat.divInt_eq_div] at e
      have : (t : Rat) = 0 := by
        have : (t : Rat) = ((t : Rat) / (b : Rat)) * (b : Rat) := by grind
        rw [this, e]
        grind
      exact ht (by exact_mod_cast this)
    · have e1 : ((84 : Nat) : Rat) = ((b * m : Int) : Rat) := by rw [hm]; rfl
      rw [e1, Rat.divInt_eq_div]
      have hbr : (b : Rat) ≠ 0 := fun z => h0 (by exact_mod_cast z)
      push_cast
      grind
    · rw [Int.natAbs_mul]
      exact Nat.le_trans (Nat.mul_le_mul h hm2) (by decide)
  rcases hb with e | e | e | e | e <;> subst e
  · exact key 1 84 (by decide) (by decide) (by decide)
  · exact key 2 42 (by decide) (by decide) (by decide)
  · exact key 3 28 (by decide) (by decide) (by decide)
  · exact key 4 21 (by decide) (by decide) (by decide)
  · exact key 7 12 (by decide) (by decide) (by decide)
/-- a list that is not the well's -/
def dNe (K : PySem.W.Frag) (W : Addr) (dl : List DP) : DP := ⟨fun v H => ∃ a vs, a ≠ W ∧ v = .ref a ∧ SqL K H a vs ∧ AllIs dl vs H, fun e h => by
  obtain ⟨a, vs, h0, h1, h2, h3⟩ := h
  exact ⟨a, vs, h0, h1, e.seq h2, h3.mono e⟩⟩
theorem imp_ne {K : PySem.W.Frag} {W : Addr} {dl : List DP} : DP.imp (dNe K W dl) (dLst K dl) := fun v H h => by
  obtain ⟨a, vs, h0, h1, h2, h3⟩ := h
  exact ⟨a, vs, h1, h2, h3⟩
theorem stW_ne {K : PySem.W.Frag} {W : Addr} {dl : List DP} (hs : ∀ d ∈ dl, StW W d) : StW W (dNe K W dl) := fun v H H' n B w c q => by
  obtain ⟨a, vs, h0, h1, h2, h3⟩ := q
  refine ⟨a, vs, h0, h1, ?_, allIs_wk hs w c h3⟩
  rcases h2 with (h | ⟨o, h⟩) | h
  · exact .inl (.inl (c.rest _ _ h0 h))
  · exact .inl (.inr ⟨o, c.rest _ _ h0 h⟩)
  · exact .inr h
section
variable {P : Program} {w : World} {mg : Str → Option Value} {base : Heap} {K : PySem.W.Frag} {ds ds' ds1 : List (Option DP)} {te ta tb tl th : TE} {tas : TA} {tt : TT} {t u : TS} {a b d d1 d2 : DP} {dl : List DP} {W : Addr} {n m : Nat}
theorem callP_l {α : Type} {sp : Sp} {S : α → Prop} {D : α → DP} (h : ∀ x, S x → CallP sp (D x :: dl) d) : CallP sp (dEx S D :: dl) d := fun vs H hv Q E q => by
  cases hv with
  | cons h1 h2 =>
    obtain ⟨x, hx, h3⟩ := h1
    exact h x hx _ H (.cons h3 h2) Q E q
theorem callP_2 {α : Type} {sp : Sp} {S : α → Prop} {D : α → DP} (h : ∀ x, S x → CallP sp (d1 :: D x :: dl) d) : CallP sp (d1 :: dEx S D :: dl) d := fun vs H hv Q E q => by
  cases hv with
  | cons h1 h2 => cases h2 with
    | cons h3 h4 =>
      obtain ⟨x, hx, h5⟩ := h3
      exact h x hx _ H (.cons h1 (.cons h5 h4)) Q E q
theorem CallP.imp {sp : Sp} {d' : DP} (h : CallP sp dl d) (i : DP.imp d d') : CallP sp dl d' := fun vs H hv Q E q => h vs H hv Q E fun v H' e hv' => q v H' e (i v H' hv')
theorem imp_exI {α : Type} {S : α → Prop} {D : α → DP} {x : α} (h : S x) : DP.imp (D x) (dEx S D) := fun v H q => ⟨x, h, q⟩
theorem imp_ex {α β : Type} {S : α → Prop} {D : α → DP} {S' : β → Prop} {D' : β → DP} (h : ∀ x, S x → ∃ y, S' y ∧ DP.imp (D x) (D' y)) : DP.imp (dEx S D) (dEx S' D') := fun v H q => by
  obtain ⟨x, h1, h2⟩ := q
  obtain ⟨y, h3, h4⟩ := h x h1
  exact ⟨y, h3, h4 v H h2⟩
theorem ew_ifP (st : StL W ds) {b1 : Bool} (h : EvB tt ds b1) (h1 : b1 = true → EvW W m ta ds d) (h2 : b1 = false → EvW W m tb ds d) : EvW W m (tIf tt ta tb) ds d := fun σ H B s w hB Q q => h σ H s _ fun H1 e1 => by
  cases b1 with
  | true => exact h1 rfl σ H1 B (s.mono e1) (w.same e1) hB Q fun v H2 c2 hv => q v H2 (by have := (WkR.of_same e1).trans c2; rw [Nat.zero_add] at this; exact this) hv
  | false => exact h2 rfl σ H1 B (s.mono e1) (w.same e1) hB Q fun v H2 c2 hv => q v H2 (by have := (WkR.of_same e1).trans c2; rw [Nat.zero_add] at this; exact this) hv
theorem ew_tup (h : EvAW W n tas ds dl) (hl : dl.length ≤ 1000) : EvW W n (tTup tas) ds (dTup K dl) := fun σ H B s w hB Q q =>
  h σ H B s w hB _ fun vs H1 c1 hvs => ⟨Nat.le_of_lt (small1000 (by rw [hvs.length]; exact hl)), fun p hp => q (.ref p) _ (c1.trans (WkR.of_same (same_new hp))) ⟨p, vs, rfl, SqT.of upd_same, hvs.mono (same_new hp)⟩⟩
theorem ew_lst (h : EvAW W n tas ds dl) (hl : dl.length ≤ 1000) : EvW W n (tLst tas) ds (dLst K dl) := fun σ H B s w hB Q q =>
  h σ H B s w hB _ fun vs H1 c1 hvs => ⟨Nat.le_of_lt (small1000 (by rw [hvs.length]; exact hl)), fun p hp => q (.ref p) _ (c1.trans (WkR.of_same (same_new hp))) ⟨p, vs, rfl, SqL.of upd_same, hvs.mono (same_new hp)⟩⟩
theorem bw_tup2 {i j : Nat} (st : StL W ds) (h : EvW W n te ds (dTup K [d1, d2])) (k : BdW W m u ((ds.set i (some d1)).set j (some d2)) d) : BdW W (n + m) (tSeq (tAsg te (gTup K 2 (gCons (gName i) (gCons (gName j) gNil)))) u) ds d := fun D σ H B s w hB q =>
  h σ H B s w (by omega) _ fun v H1 c1 hv => by
    obtain ⟨a, vs, rfl, hs, ha⟩ := hv
    cases ha with
    | @cons _ _ v _ _ h1 hr => cases hr with
      | @cons _ _ w' _ _ h2 hr2 =>
        cases hr2
        exact ⟨a, [v, w'], rfl, hs, rfl, v, [w'], rfl, w', [], rfl, rfl, k D _ H1 (B + n) (((s.wk st w c1).set i h1).set j h2) (c1.well B w) (by omega) fun x H2 c2 hx => q x H2 (c1.trans c2) hx⟩
theorem bw_if (st : StL W ds) (h : EvBW W n tt ds) (h1 : BdW W m t ds d) (h2 : BdW W m u ds d) : BdW W (n + m) (tSeq (tIfS tt t tNext) u) ds d := fun D σ H B s w hB q => h σ H B s w (by omega) _ fun b H1 c1 => by
  cases b with
  | true => exact h1 { D with nx := u D } σ H1 (B + n) (s.wk st w c1) (c1.well B w) (by omega) fun v H2 c2 hv => q v H2 (c1.trans c2) hv
  | false => exact h2 D σ H1 (B + n) (s.wk st w c1) (c1.well B w) (by omega) fun v H2 c2 hv => q v H2 (c1.trans c2) hv
theorem op_any {r : R2} {S : Int → Prop} {p : Int → Bool} {j : Int} : OpP (rI0 fun i j => .bl (p i)) (dEx S fun i => dV (.int i)) (dV (.int j)) dBool := opP_l fun x _ => OpP.imp op_I0 (imp_exI (S := fun _ : Bool => True) (D := fun b => dV (.bl b)) trivial)
theorem op_cmpX {S : Int → Prop} {p : Int → Int → Bool} {j : Int} : OpP (rI0 fun i j => .bl (p i j)) (dEx S fun i => dV (.int i)) (dV (.int j)) dBool := opP_l fun x _ => OpP.imp op_I0 (imp_exI (S := fun _ : Bool => True) (D := fun b => dV (.bl b)) trivial)
theorem op_eqX {S : Int → Prop} {j : Int} : OpP rEq (dEx S fun i => dV (.int i)) (dV (.int j)) dBool := opP_l fun x _ => OpP.imp (op_eqV rfl) (imp_exI (S := fun _ : Bool => True) (D := fun b => dV (.bl b)) trivial)
theorem op_mapR {S S' : Int → Prop} {g : Int → Int → Int} {i : Int} (h : ∀ x, S x → S' (g i x)) : OpP (rI0 fun i j => .int (g i j)) (dV (.int i)) (dEx S fun i => dV (.int i)) (dEx S' fun i => dV (.int i)) := opP_r fun x hx => OpP.imp op_I0 (imp_exI (D := fun i => dV (.int i)) (h x hx))
theorem op_mapL {S S' : Int → Prop} {g : Int → Int → Int} {i : Int} (h : ∀ x, S x → S' (g x i)) : OpP (rI0 fun i j => .int (g i j)) (dEx S fun i => dV (.int i)) (dV (.int i)) (dEx S' fun i => dV (.int i)) := opP_l fun x hx => OpP.imp op_I0 (imp_exI (D := fun i => dV (.int i)) (h x hx))
theorem op_map2 {S S2 S' : Int → Prop} {g : Int → Int → Int} (h : ∀ x y, S x → S2 y → S' (g x y)) : OpP (rI0 fun i j => .int (g i j)) (dEx S fun i => dV (.int i)) (dEx S2 fun i => dV (.int i)) (dEx S' fun i => dV (.int i)) := opP_l fun x hx => opP_r fun y hy => OpP.imp op_I0 (imp_exI (D := fun i => dV (.int i)) (h x y hx hy))
theorem EvAW.le (h : EvAW W n tas ds dl) (hm : n ≤ m) : EvAW W m tas ds dl := fun σ H B s w hB Q q => h σ H B s w (by omega) Q fun v H' c hv => q v H' (c.mono hm) hv
theorem lt_of_lt' {i : Int} (h : i.natAbs ≤ 1000000000) : i.natAbs < 2 ^ 13500 := Nat.lt_of_le_of_lt h (Nat.lt_of_lt_of_le (show 1000000000 < 2 ^ 40 by decide) (Nat.pow_le_pow_right (by decide) (by decide)))
/-- take(well, c) -/
theorem ew_take {c : Int} {E : XK} {i : Nat} {tc : TE} (h0 : ds[i]? = some (some (dV (.ref W)))) (h : EvD tc ds (dV (.int c))) (h1 : 0 < c) (h2 : c < 1073741824) (st : StL W ds) :
    EvW W 1 (tCall (spW 1 (fun c : Int => 0 < c ∧ c < 1073741824) (fun W c => [dV (.int c)]) (fun c => dUpTo c)) [] E (tCons (tVar i) (tCons tc tNil))) ds (dUpTo c) :=
  (ew_callW (callW c ⟨h1, h2⟩) h0 (eaw_cons st stW_V (ew_of h) eaw_nil)).le (by omega)
def dAmong (ns : List Int) : DP := dEx (fun i : Int => i ∈ ns) fun i => dV (.int i)
theorem noL_ints (q : List Int) : noL (.tuple (q.map PyData.int)) = true := by
  show noLs (q.map PyData.int) = true
  induction q with
  | nil => rfl
  | cons x q ih => show (true && noLs (q.map PyData.int)) = true; rw [ih]; rfl
/-- pick(well, (..)) -/
theorem ew_pick {ns : List Int} {E : XK} {i : Nat} {tc : TE} (h0 : ds[i]? = some (some (dV (.ref W)))) (h1 : 0 < ns.length) (h2 : ns.length ≤ 1000) (h : EvD tc ds (dD K (.tuple (ns.map .int)))) (st : StL W ds) :
    EvW W 1 (tCall (spW 1 (fun ns : List Int => 0 < ns.length ∧ ns.length ≤ 1000) (fun W ns => [dD K (.tuple (ns.map .int))]) (fun ns => dAmong ns)) [] E (tCons (tVar i) (tCons tc tNil))) ds (dAmong ns) :=
  (ew_callW (callW ns ⟨h1, h2⟩) h0 (eaw_cons st (stW_stiff (stiff_D (noL_ints ns))) (ew_of h) eaw_nil)).le (by omega)
variable (F : Facts K mg)
include F
theorem c__law_pick : C8.Cal P w K mg base 2 "_law_pick" (spW 1 (fun ns : List Int => 0 < ns.length ∧ ns.length ≤ 1000) (fun W ns => [dD K (.tuple (ns.map .int))]) (fun ns => dAmong ns)) [] := by
  have mlen := F.m_len
  have c_law_take := c__law_take (P := P) (w := w) (base := base) F
  refine fn_okW F.f__law_pick (N := ["_law_well_here", "_law_some"]) (C8.fnScope_by (by decide +kernel)) (fun _ _ => rfl) fun sc cdv A outer s H E f hr => ⟨_, (pss_one (ps_ret (pe_ix (r := rIxT K) ix_tup (pv 1) (C8.pe_c c_law_take hr (by decide) (by rfl) (pa_cons (pv 0) (pa_cons (pe_callB call_len (by rfl) mlen PySem.boot_len (pa_cons (pv 1) pa_nil)) pa_nil))) (fun _ _ => rfl)))), fun q hq => ?_⟩
  obtain ⟨h0, h1⟩ := hq
  intro W
  have noL : noL (.tuple (q.map PyData.int)) = true := by
    show noLs (q.map PyData.int) = true
    clear h0 h1
    induction q with
    | nil => rfl
    | cons x q ih => show (true && noLs (q.map PyData.int)) = true; rw [ih]; rfl
  have st : StL W (slots ["_law_well_here", "_law_some"] [dV (.ref W), dD K (.tuple (q.map .int))]) := stL_some stW_V (stL_some (stW_stiff (stiff_D noL)) stL_nil)
  refine bw_ret (EvW.le (ew_op st (stW_stiff (stiff_D noL)) (opP_r fun r hr => ?_) (ew_of (ed_var rfl)) (ew_take (c := ((q.map PyData.int).length : Int)) rfl (ed_len (ed_var rfl)) (by rw [List.length_map]; omega) (by rw [List.length_map]; omega) st)) (by omega))
  rw [List.length_map] at hr
  have hlt : r.toNat < q.length := by omega
  have hat : atI (q.map PyData.int) r = some (.int q[r.toNat]) := by
    unfold atI
    rw [List.length_map, ixN_nat hr.1 hr.2]
    show (q.map PyData.int)[r.toNat]? = _
    rw [List.getElem?_map, List.getElem?_eq_getElem hlt]
    rfl
  exact OpP.imp (OpP.imp (op_ixT hat) imp_int) (imp_exI (D := fun i => dV (.int i)) (List.getElem_mem hlt))
theorem c__law_pickL : C8.Cal P w K mg base 2 "_law_pick" (spW 1 (fun ns : List Int => 0 < ns.length ∧ ns.length ≤ 1000) (fun W ns => [dNe K W (ns.map fun i => dV (.int i))]) (fun ns => dAmong ns)) [] := by
  have mlen := F.m_len
  have c_law_take := c__law_take (P := P) (w := w) (base := base) F
  refine fn_okW F.f__law_pick (N := ["_law_well_here", "_law_some"]) (C8.fnScope_by (by decide +kernel)) (fun _ _ => rfl) fun sc cdv A outer s H E f hr => ⟨_, (pss_one (ps_ret (pe_ix (r := rIxL K) ix_list (pv 1) (C8.pe_c c_law_take hr (by decide) (by rfl) (pa_cons (pv 0) (pa_cons (pe_callB call_len (by rfl) mlen PySem.boot_len (pa_cons (pv 1) pa_nil)) pa_nil))) (fun _ _ => rfl)))), fun q hq => ?_⟩
  obtain ⟨h0, h1⟩ := hq
  intro W
  have sn : StW W (dNe K W (q.map fun i => dV (.int i))) := stW_ne fun d hd => by
    obtain ⟨i, _, rfl⟩ := List.mem_map.mp hd
    exact stW_V
  have st : StL W (slots ["_law_well_here", "_law_some"] [dV (.ref W), dNe K W (q.map fun i => dV (.int i))]) := stL_some stW_V (stL_some sn stL_nil)
  refine bw_ret (EvW.le (ew_op st sn (opP_r fun r hr => ?_) (ew_of (ed_var rfl)) (ew_take (c := ((q.map fun i => dV (.int i)).length : Int)) rfl (ed_cb rc_lenL (ea_cons ((ed_var rfl).imp imp_ne) ea_nil)) (by rw [List.length_map]; omega) (by rw [List.length_map]; omega) st)) (by omega))
  rw [List.length_map] at hr
  have hlt : r.toNat < q.length := by omega
  have hat : atI (q.map fun i => dV (.int i)) r = some (dV (.int q[r.toNat])) := by
    unfold atI
    rw [List.length_map, ixN_nat hr.1 hr.2]
    show (q.map fun i => dV (.int i))[r.toNat]? = _
    rw [List.getElem?_map, List.getElem?_eq_getElem hlt]
    rfl
  exact fun x y H hx hy Q q' => OpP.imp (op_ixLP hat) (imp_exI (D := fun i => dV (.int i)) (List.getElem_mem hlt)) x y H (imp_ne _ _ hx) hy Q q'
def dNum (K : PySem.W.Frag) : DP := dEx NumOk fun q => dD K (ratD q)
theorem c__law_number : C8.Cal P w K mg base 3 "_law_number" (spW 5 (fun _ : Unit => True) (fun W _ => []) (fun _ => dNum K)) [] := by
  have c_law_take := c__law_take (P := P) (w := w) (base := base) F
  have c_law_pick := c__law_pick (P := P) (w := w) (base := base) F
  have c_law_ratio := c__law_ratio (P := P) (w := w) (base := base) F
  refine fn_okW F.f__law_number (N := ["_law_well_here", "_law_tip", "_law_below"]) (C8.fnScope_by (by decide +kernel)) (fun _ _ => rfl) fun sc cdv A outer s H E f hr => ⟨_, (pss_cons (ps_set (i := 1) sc.nd rfl (Or.inl rfl) (pe_ifExp (pt_cmpR op_gt (C8.pe_c c_law_take hr (by decide) (by rfl) (pa_cons (pv 0) (pa_cons pe_int pa_nil))) pe_int (nomark _)) (pe_op op_add pe_int (C8.pe_c c_law_take hr (by decide) (by rfl) (pa_cons (pv 0) (pa_cons pe_int pa_nil)))) (pe_op op_add pe_int (C8.pe_c c_law_take hr (by decide) (by rfl) (pa_cons (pv 0) (pa_cons (pe_op op_pow pe_int pe_int) pa_nil)))))) (pss_cons (ps_set (i := 2) sc.nd rfl (Or.inl rfl) (C8.pe_c c_law_pick hr (by decide) (by rfl) (pa_cons (pv 0) (pa_cons (pe_tup (pa_cons pe_int (pa_cons pe_int (pa_cons pe_int (pa_cons pe_int (pa_cons pe_int (pa_cons pe_int (pa_cons pe_int (pa_cons pe_int pa_nil))))))))) pa_nil)))) (pss_one (ps_ret (C8.pe_c c_law_ratio hr (by decide) (by rfl) (pa_cons (pe_ifExp (pt_cmpR op_eq (C8.pe_c c_law_take hr (by decide) (by rfl) (pa_cons (pv 0) (pa_cons pe_int pa_nil))) pe_int (nomark _)) (pv 1) (pe_op op_sub pe_int (pv 1))) (pa_cons (pv 2) pa_nil))))))), fun q hq W => ?_⟩
  have st0 : StL W (slots ["_law_well_here", "_law_tip", "_law_below"] [dV (.ref W)]) := stL_some stW_V (stL_none (stL_none stL_nil))
  refine BdW.le (n := 2 + (1 + 1)) (bw_asg (n := 2) (m := 1 + 1) st0 (d1 := dEx (fun t : Int => 1 ≤ t ∧ t ≤ 1000000000) fun t => dV (.int t)) (ew_if (n := 1) (m := 1) st0 (ebw_test (EvW.le (ew_op st0 stW_upTo op_cmpX (ew_take rfl ed_v (by decide) (by decide) st0) (ew_of ed_v)) (by omega))) (EvW.le (ew_op st0 stW_V (op_mapR (fun x hx => by omega)) (ew_of ed_v) (ew_take rfl ed_v (by decide) (by decide) st0)) (by omega)) (EvW.le (ew_op st0 stW_V (op_mapR (fun x hx => by omega)) (ew_of ed_v) (ew_take (c := 1000000000) rfl (EvD.to (ed_op (op_I ⟨by decide, by decide, by decide⟩) ed_v ed_v) (by decide)) (by decide) (by decide) st0)) (by omega))) ?_) (by omega)
  refine bw_open (i := 1) rfl fun t ht => ?_
  have st1 : StL W [some (dV (.ref W)), some (dV (.int t)), none] := stL_some stW_V (stL_some stW_V (stL_none stL_nil))
  refine bw_asg (n := 1) (m := 1) st1 (ew_pick (ns := [1, 1, 1, 2, 2, 3, 4, 7]) rfl (by decide) (by decide) (ed_tup (xs := [1, 1, 1, 2, 2, 3, 4, 7].map PyData.int) (ea_cons (ed_v.imp imp_int') (ea_cons (ed_v.imp imp_int') (ea_cons (ed_v.imp imp_int') (ea_cons (ed_v.imp imp_int') (ea_cons (ed_v.imp imp_int') (ea_cons (ed_v.imp imp_int') (ea_cons (ed_v.imp imp_int') (ea_cons (ed_v.imp imp_int') ea_nil)))))))) (by simp)) st1) ?_
  refine bw_open (i := 2) rfl fun b hb => ?_
  have st2 : StL W [some (dV (.ref W)), some (dV (.int t)), some (dV (.int b))] := stL_some stW_V (stL_some stW_V (stL_some stW_V stL_nil))
  have hb' : b = 1 ∨ b = 2 ∨ b = 3 ∨ b = 4 ∨ b = 7 := by
    simp at hb
    omega
  refine bw_ret (EvW.le (n := 1 + (0 + 0)) (ew_call (callP_l (S := fun x : Int => x ≠ 0 ∧ x.natAbs ≤ 1000000000) (D := fun x => dV (.int x)) fun x hx => CallP.imp (callP (x, b) ⟨?_, ?_, ?_⟩) (imp_exI (D := fun q => dD K (ratD q)) (num_of hb' hx.1 hx.2))) (eaw_cons st2 (stW_ex fun _ _ => stW_V) (EvW.le (n := 1 + 0) (ew_if (n := 1) (m := 0) st2 (ebw_test (EvW.le (ew_op st2 stW_upTo op_eqX (ew_take rfl ed_v (by decide) (by decide) st2) (ew_of ed_v)) (by omega))) (EvW.imp (ew_of (ed_var rfl)) (imp_exI (D := fun x => dV (.int x)) ⟨by omega, by omega⟩)) (EvW.imp (ew_of (ed_op op_I0 ed_v (ed_var rfl))) (imp_exI (D := fun x => dV (.int x)) ⟨by omega, by omega⟩))) (by omega)) (eaw_cons st2 stW_V (ew_of (ed_var rfl)) eaw_nil))) (by omega))
  · show b ≠ 0
    omega
  · exact lt_of_lt' hx.2
  · exact lt_of_lt' (by show b.natAbs ≤ 1000000000; omega)
end
end K65

/-! K65LM: rows drawn -/
namespace K65
open PySem PySem.Spec PyProof.Rows L2
def NearOk (m : Int) (p : L) : Prop := (∃ s : Int, -2 ≤ s ∧ s ≤ 1 ∧ In s (s + m) p) ∧ Hw 84 37 p
theorem near_of {tm : Tm} {s l m : Int} (hk : KeysOk tm) (h : ∀ x ∈ tm, s ≤ x.1 ∧ x.1 < s + l ∧ NumOk x.2) (hs : -2 ≤ s ∧ s ≤ 1) (hl : l ≤ m) : LotOk tm (ofT tm) ∧ NearOk m (ofT tm) := by
  have co : ∀ k, (ofT tm).co k = 0 ∨ ∃ x ∈ tm, x.1 = k ∧ (ofT tm).co k = x.2 := fun k => by
    rw [co_lk hk]
    cases e : lk tm k with
    | none => exact .inl rfl
    | some q => exact .inr ⟨_, lk_mem e, rfl, rfl⟩
  refine ⟨⟨hk, fun x hx => (h x hx).2.2.1, rfl⟩, ⟨s, hs.1, hs.2, fun k hk' => ?_⟩, by decide, fun k => ?_⟩
  · rcases co k with z | ⟨x, hx, rfl, _⟩
    · exact absurd z hk'
    · have := h x hx
      omega
  · rcases co k with z | ⟨x, hx, rfl, e⟩
    · rw [z]
      exact ⟨0, by grind, Nat.zero_le _⟩
    · rw [e]
      exact (h x hx).2.2.2
def dNear (K : PySem.W.Frag) (m : Int) : DP := dEx (NearOk m) (dLot K)
section
variable {P : Program} {w : World} {mg : Str → Option Value} {base : Heap} {K : PySem.W.Frag} {ds ds' ds1 : List (Option DP)} {te ta tb tl th : TE} {tas : TA} {tt tu : TT} {t u : TS} {a b d d1 d2 : DP} {dl : List DP} {W : Addr} {n m : Nat}
theorem ebw_or (st : StL W ds) (h1 : EvBW W n tt ds) (h2 : EvBW W m tu ds) : EvBW W (n + m) (tOr tt tu) ds := fun σ H B s w hB Q q => h1 σ H B s w (by omega) _ fun b H1 c1 => by
  cases b with
  | true =>
    show Q true H1
    exact q true H1 (c1.mono (by omega))
  | false =>
    show tu σ H1 Q
    exact h2 σ H1 (B + n) (s.wk st w c1) (c1.well B w) (by omega) Q fun b2 H2 c2 => q b2 H2 (c1.trans c2)
theorem op_in2 {i j k : Int} : OpP (rIn K false) (dV (.int i)) (dTup K [dV (.int j), dV (.int k)]) dBool := fun x y H hx hy Q q => by
  cases hx
  obtain ⟨a, vs, rfl, hS, ha⟩ := hy
  cases ha with
  | cons a1 r1 => cases r1 with
    | cons a2 r2 =>
      cases r2
      cases a1
      cases a2
      exact ⟨a, _, rfl, .inr hS, rfl, rfl, q _ H (Same.refl H) ⟨_, trivial, rfl⟩⟩
theorem ew_ofX {α : Type} {S : α → Prop} {D : α → DP} (h : EvW W n te ds (dEx S D)) {D' : α → DP} (hi : ∀ x, S x → DP.imp (D x) (D' x)) : EvW W n te ds (dEx S D') := EvW.imp h (imp_ex fun x hx => ⟨x, hx, hi x hx⟩)
theorem small1000' {n : Nat} (h : n ≤ 1000) : n ≤ sizeLine := Nat.le_of_lt (small1000 h)
theorem stL_wipe (st : StL W ds) : ∀ vs : List Nat, StL W (wipeD ds vs)
  | [] => st
  | v :: vs => fun i d e => by
    have ih := stL_wipe st vs
    have e : ((wipeD ds vs).set v none)[i]? = some (some d) := e
    rw [List.getElem?_set] at e
    split at e
    · split at e <;> cases e
    · exact ih i d e
/-- (k, a drawn number) -/
theorem ew_item {α : Type} {S : α → Prop} {tk tv : TE} {k : Int} {f : α → Rat} (st : StL W ds) (h1 : EvD tk ds (dV (.int k))) (h2 : EvW W n tv ds (dEx S fun x => dD K (ratD (f x)))) : EvW W n (tTup (tCons tk (tCons tv tNil))) ds (dEx S fun x => itemD K (k, f x)) := fun σ H B s w hB Q q =>
  h1 σ H s _ fun x H1 e1 hx => h2 σ H1 B (s.mono e1) (w.same e1) hB _ fun y H2 c2 hy => by
    cases hx
    obtain ⟨z, hz, hy⟩ := hy
    refine ⟨small1000' (by simp), fun p hp => q (.ref p) _ (by have := (WkR.of_same e1).trans (c2.trans (WkR.of_same (same_new (o := .tup [.int k, y]) hp))); rw [Nat.zero_add] at this; exact this) ⟨z, hz, p, _, rfl, SqT.of upd_same, .cons rfl (.cons ((dD K _).mono (same_new hp) hy) .nil)⟩⟩
/-- dict([(k, a number) for k in range(s, s + l) if ..]) -/
theorem bw_near {s l mm : Int} {tas : TA} {i : Nat} {vs : List Nat} {tk tv : TE} (st : StL W ds) (hs : -2 ≤ s ∧ s ≤ 1) (hl : 1 ≤ l ∧ l ≤ mm) (hm : mm ≤ 4) (hi : i ∈ vs) (hr : EvA tas ds [dV (.int s), dV (.int (s + l))])
    (ht : ∀ j : Nat, EvBW W 1 tt ((wipeD ds vs).set i (some (dV (.int (s + (j : Int))))))) (hv : ∀ j : Nat, EvW W 5 (tTup (tCons tk (tCons tv tNil))) ((wipeD ds vs).set i (some (dV (.int (s + (j : Int)))))) (dEx NumOk fun q => itemD K (s + (j : Int), q))) :
    BdW W 24 (tRet (tCB (fun xs H Q => ∃ (a : Addr) (ps : List Addr) (kvs : List (Key × V)), xs = [.ref a] ∧ SqL K H a (ps.map V.ref) ∧ Paired (fun p kv => SqT K H p [kV kv.1, kv.2]) ps kvs ∧ ∀ p, H p = none → Q (.ref p) (upd H p (.dK (mergeK [] kvs)))) (tCons (tLc (iRng2 tas) (gName i) tt (tTup (tCons tk (tCons tv tNil))) vs) tNil))) ds (dNear K mm) := fun D σ H B sl w hB q =>
  hr σ H sl _ fun us H1 e1 hus => by
    cases hus with
    | cons a1 r1 => cases r1 with
      | cons a2 r2 =>
        cases r2
        cases a1
        cases a2
        refine ⟨s, s + l, rfl, by omega, fun Dd hDd => ?_⟩
        have hDH : H Dd = none := none_back e1 hDd
        have hDW : Dd ≠ W := fun z => by
          subst z
          obtain ⟨x, y, z, h, _⟩ := w.ex
          rw [hDH] at h
          cases h
        have hn : (s + l - s).toNat = l.toNat := by omega
        rw [hn]
        refine lc_it (walk_range (lo := s) (n := l.toNat)) (fun k H2 => ∃ acc tm, H2 Dd = some (.lst acc) ∧ acc.length ≤ k ∧ AllIs (tm.map (itemD K)) acc H2 ∧ KeysOk tm ∧ (∀ x ∈ tm, s ≤ x.1 ∧ x.1 < s + k ∧ NumOk x.2) ∧ WkR W (6 * k) H H2)
          ⟨[], [], upd_same, Nat.le_refl _, .nil, List.nodup_nil, fun x hx => (nomatch hx), ⟨fun b o ne h => ?_, fun B' h => ?_⟩⟩ (fun _ _ _ _ => trivial) (fun j x H2 H3 hj hp hy => ?_) (fun H2 hp => ?_)
        · rw [upd_ne (ne_of_none h hDH)]
          exact e1 _ _ h
        · obtain ⟨x, y, z, h1, h2⟩ := h.ex
          exact ⟨x, y, z, by rw [upd_ne hDW.symm]; exact e1 _ _ h1, h2.1, h2.2.1, h2.2.2.1, h2.2.2.2.1, by have := h2.2.2.2.2; omega⟩
        · obtain ⟨acc, tm, hDa, hla, hac, hk, hx, c⟩ := hp
          obtain ⟨rfl, rfl⟩ := hy
          have sl2 : Sl ((wipe σ vs).set i (some (.int (s + (j : Int))))) ((wipeD ds vs).set i (some (dV (.int (s + (j : Int)))))) H3 := ((sl.wk st w c).wipe vs).set i rfl
          have st2 : StL W ((wipeD ds vs).set i (some (dV (.int (s + (j : Int)))))) := StL.set (stL_wipe st vs) stW_V i
          have hj4 : j < 4 := by omega
          refine ⟨wipe_idem_set hi, ht j _ H3 (B + 6 * j) sl2 (c.well B w) (by omega) _ fun bb H4 c4 => ?_⟩
          have w4 := c4.well _ (c.well B w)
          have hD4 : H4 Dd = some (.lst acc) := c4.rest _ _ hDW hDa
          have ac4 : AllIs (tm.map (itemD K)) acc H4 := allIs_wk (fun d hd => by
            obtain ⟨z, _, rfl⟩ := List.mem_map.mp hd
            exact stW_stiff item_stiff) (c.well B w) c4 hac
          cases bb with
          | false =>
            rw [if_neg Bool.false_ne_true]
            exact ⟨acc, tm, hD4, by omega, ac4, hk, fun z hz => by have := hx z hz; exact ⟨this.1, by omega, this.2.2⟩, (c.trans c4).mono (by omega)⟩
          | true =>
            rw [if_pos rfl]
            refine hv j _ H4 (B + 6 * j + 1) (sl2.wk st2 (c.well B w) c4) w4 (by omega) _ fun v H5 c5 hv5 => ?_
            obtain ⟨qn, hq, hv5⟩ := hv5
            have hD5 : H5 Dd = some (.lst acc) := c5.rest _ _ hDW hD4
            have ac5 : AllIs (tm.map (itemD K)) acc H5 := allIs_wk (fun d hd => by
              obtain ⟨z, _, rfl⟩ := List.mem_map.mp hd
              exact stW_stiff item_stiff) w4 c5 ac4
            refine ⟨acc, hD5, small1000 (by omega), acc ++ [v], tm ++ [(s + (j : Int), qn)], upd_same, by simp; omega, ?_, ?_, ?_, ⟨fun b o ne h => ?_, fun B' h => ?_⟩⟩
            · rw [List.map_append]
              exact (ac5.snoc hv5).keep (Keep.upd hD5) fun d hd => by
                rcases List.mem_append.mp hd with z | z
                · obtain ⟨z, _, rfl⟩ := List.mem_map.mp z
                  exact item_stiff
                · have : d = itemD K (s + (j : Int), qn) := by simpa using z
                  rw [this]
                  exact item_stiff
            · unfold KeysOk at *
              rw [List.map_append]
              refine List.nodup_append.mpr ⟨hk, by simp, fun a ha b hb => ?_⟩
              have hb : b = s + (j : Int) := by simpa using hb
              obtain ⟨z, hz, rfl⟩ := List.mem_map.mp ha
              have := hx z hz
              omega
            · intro z hz
              rcases List.mem_append.mp hz with y | y
              · have := hx z y
                exact ⟨this.1, by omega, this.2.2⟩
              · have : z = (s + (j : Int), qn) := by simpa using y
                subst this
                exact ⟨by simp only; omega, by simp only; omega, hq⟩
            · rw [upd_ne (ne_of_none h hDH)]
              exact c5.rest _ _ ne (c4.rest _ _ ne (c.rest _ _ ne h))
            · have := c5.well _ (c4.well _ (c.well _ h))
              obtain ⟨x, y, z, h1, h2⟩ := this.ex
              exact ⟨x, y, z, by rw [upd_ne hDW.symm]; exact h1, h2.1, h2.2.1, h2.2.2.1, h2.2.2.2.1, by have := h2.2.2.2.2; omega⟩
        · obtain ⟨acc, tm, hDa, hla, hac, hk, hx, c⟩ := hp
          obtain ⟨ok, nr⟩ := near_of hk (l := l) (m := mm) (fun x hx' => by have := hx x hx'; exact ⟨this.1, by omega, this.2.2⟩) hs hl.2
          exact rc_dict hk _ H2 (.cons ⟨Dd, acc, rfl, SqL.of hDa, hac⟩ .nil) _ fun v H3 e3 hv => q v H3 ((c.trans (WkR.of_same e3)).mono (by omega)) ⟨ofT tm, nr, tm, ok, hv⟩
variable (F : Facts K mg)
include F
theorem c__law_near : C8.Cal P w K mg base 4 "_law_near" (spW 30 (fun m : Int => 1 ≤ m ∧ m ≤ 4) (fun W m => [dV (.int m)]) (fun m => dNear K m)) [] := by
  have mdict := F.m_dict
  have mrange := F.m_range
  have c_law_take := c__law_take (P := P) (w := w) (base := base) F
  have c_law_number := c__law_number (P := P) (w := w) (base := base) F
  refine fn_okW F.f__law_near (N := ["_law_well_here", "_law_most", "_law_first", "_law_length", "_law_k"]) (C8.fnScope_by (by decide +kernel)) (fun _ _ => rfl) fun sc cdv A outer s H E f hr => ⟨_, (pss_cons (ps_asg (pe_tup (pa_cons (pe_op op_sub (C8.pe_c c_law_take hr (by decide) (by rfl) (pa_cons (pv 0) (pa_cons pe_int pa_nil))) pe_int) (pa_cons (pe_op op_add pe_int (C8.pe_c c_law_take hr (by decide) (by rfl) (pa_cons (pv 0) (pa_cons (pv 1) pa_nil)))) pa_nil))) (pg_tup rfl (pgs_cons (pg_name (i := 2) sc.nd rfl (Or.inr rfl)) (pgs_cons (pg_name (i := 3) sc.nd rfl (Or.inr rfl)) pgs_nil)))) (pss_one (ps_ret (pe_callTy (call_dictP rfl) (by rfl) mdict (by decide +kernel) (pa_cons (pe_lc (own := [("_law_k", 4)]) rfl sc.nd (pi_range2 (by rfl) mrange (pa_cons (pv 2) (pa_cons (pe_op op_add (pv 2) (pv 3)) pa_nil))) (blkOk_by (by change blkC ["_law_well_here", "_law_most", "_law_first", "_law_length", "_law_k"] (C8.fnScope (topS 85)) _ _ = true; decide +kernel)) (fun _ _ _ _ _ => (pg_name (i := 4) sc.nd rfl (by first | exact Or.inl rfl | exact Or.inr rfl))) (fun _ _ _ _ _ => (pts_one (PW.pt (pw_or (pt_cmpR (r := rIn K false) op_in_seq (pv 4) (pe_tup (pa_cons (pv 2) (pa_cons (pe_op op_sub (pe_op op_add (pv 2) (pv 3)) pe_int) pa_nil))) (by rfl)) (pw_or1 (pt_cmpR op_gt (C8.pe_c c_law_take hr (by decide) (by rfl) (pa_cons (pv 0) (pa_cons pe_int pa_nil))) pe_int (nomark _))))))) (fun _ _ _ _ _ => (pe_tup (pa_cons (pv 4) (pa_cons (C8.pe_c c_law_number hr (by decide) (by rfl) (pa_cons (pv 0) pa_nil)) pa_nil))))) pa_nil))))), fun q hq W => ?_⟩
  have st0 : StL W (slots ["_law_well_here", "_law_most", "_law_first", "_law_length", "_law_k"] [dV (.ref W), dV (.int q)]) := stL_some stW_V (stL_some stW_V (stL_none (stL_none (stL_none stL_nil))))
  refine BdW.le (n := 4 + 24) (bw_tup2 (K := K) (n := 4) (m := 24) (d1 := dEx (fun s : Int => -2 ≤ s ∧ s ≤ 1) fun s => dV (.int s)) (d2 := dEx (fun l : Int => 1 ≤ l ∧ l ≤ q) fun l => dV (.int l)) st0 (EvW.le (ew_tup (eaw_cons st0 (stW_ex fun _ _ => stW_V) (ew_op st0 stW_upTo (op_mapL fun x hx => by omega) (ew_take rfl ed_v (by decide) (by decide) st0) (ew_of ed_v)) (eaw_cons st0 (stW_ex fun _ _ => stW_V) (ew_op st0 stW_V (op_mapR fun x hx => by omega) (ew_of ed_v) (ew_take rfl (ed_var rfl) (by omega) (by omega) st0)) eaw_nil)) (by simp)) (by omega)) ?_) (by omega)
  refine bw_open (i := 2) rfl fun s hs => bw_open (i := 3) rfl fun l hl => ?_
  have st1 : ∀ k : Int, StL W [some (dV (.ref W)), some (dV (.int q)), some (dV (.int s)), some (dV (.int l)), some (dV (.int k))] := fun k => stL_some stW_V (stL_some stW_V (stL_some stW_V (stL_some stW_V (stL_some stW_V stL_nil))))
  refine bw_near (stL_some stW_V (stL_some stW_V (stL_some stW_V (stL_some stW_V (stL_none stL_nil))))) hs hl hq.2 (by simp) (ea_cons (ed_var rfl) (ea_cons (ed_op op_I0 (ed_var rfl) (ed_var rfl)) ea_nil)) (fun j => ?_) (fun j => ?_)
  · exact ebw_or (n := 0) (m := 1) (st1 _) (ebw_test (ew_of (ed_op (op_in2 (K := K)) (ed_var rfl) (ed_tupP (ea_cons (ed_var rfl) (ea_cons (ed_op op_I0 (ed_op op_I0 (ed_var rfl) (ed_var rfl)) ed_v) ea_nil)) (by simp))))) (ebw_test (EvW.le (ew_op (st1 _) stW_upTo op_cmpX (ew_take rfl ed_v (by decide) (by decide) (st1 _)) (ew_of ed_v)) (by omega)))
  · exact ew_item (f := fun q => q) (st1 _) (ed_var rfl) (EvW.le (ew_callW (n := 0) (callW (n := 5) (pre := fun _ : Unit => True) (dl := fun _ _ => []) (d := fun _ => dNum K) () trivial) rfl eaw_nil) (by omega))
omit F in
theorem all_dints {H : Hp} : ∀ ns : List Int, AllIs ((ns.map PyData.int).map (dD K)) (ns.map V.int) H
  | [] => .nil
  | i :: ns => .cons (.int i) (all_dints ns)
/-- one number changed -/
def ChgOk (p p' : L) : Prop := ∃ (k : Int) (q : Rat), NumOk q ∧ p' = p + mono k q ∧ ((p ≠ 0 ∧ ∃ j, p.co j ≠ 0 ∧ j - 1 ≤ k ∧ k ≤ j + 1) ∨ (p = 0 ∧ -1 ≤ k ∧ k ≤ 1))
omit F in
theorem ew_disp1 {tk tv : TE} {k : Int} (h1 : EvD tk ds (dV (.int k))) (h2 : EvW W n tv ds (dNum K)) : EvW W n (tDisp [(tk, tv)]) ds (dEx NumOk fun q => dLotT K [(k, q)]) := fun σ H B s w hB Q qq p hp => by
  have e0 : Same H (upd H p (.dK [])) := same_new hp
  have hpW : p ≠ W := fun z => by
    subst z
    obtain ⟨x, y, z, h, _⟩ := w.ex
    rw [hp] at h
    cases h
  refine h1 σ _ (s.mono e0) _ fun x H1 e1 hx => h2 σ H1 B ((s.mono e0).mono e1) (w.same (e0.trans e1)) hB _ fun y H2 c2 hy => ?_
  cases hx
  obtain ⟨qn, hq, hy⟩ := hy
  have hpd : H2 p = some (.dK []) := c2.rest _ _ hpW (e1 _ _ upd_same)
  refine ⟨hpd, [(Sum.inl k, y)], rfl, by simp, ?_⟩
  have kd : KeepD H2 (upd H2 p (.dK (mergeK [] [(Sum.inl k, y)]))) := fun b o hb n1 n2 => by
    by_cases z : b = p
    · subst z
      rw [hpd] at hb
      exact absurd (Option.some.inj hb).symm (n1 [])
    · rw [upd_ne z]
      exact hb
  refine qq _ _ ⟨fun b o ne hb => ?_, fun B' hB' => ?_⟩ ⟨qn, hq, p, _, rfl, upd_same, .cons ⟨rfl, dp_keepD kd _ _ hy⟩ .nil⟩
  · rw [upd_ne (ne_of_none hb hp)]
    exact c2.rest _ _ ne (e1 _ _ (e0 _ _ hb))
  · obtain ⟨x, y, z, h1, h2⟩ := (c2.well _ (hB'.same (e0.trans e1))).ex
    exact ⟨x, y, z, by rw [upd_ne hpW.symm]; exact h1, h2⟩
omit F in
/-- sorted(list(a lot)): a new list of its places -/
theorem ew_sorted {tl : TE} {tm : Tm} (h : EvD tl ds (dLotT K tm)) : EvW W 0 (tCB (rSortedI K) (tCons (tCB rListD (tCons tl tNil)) tNil)) ds (dEx (fun ns : List Int => ns.Perm (tm.map fun x => x.1)) fun ns => dNe K W (ns.map fun i => dV (.int i))) := fun σ H B s w hB Q q =>
  (ed_cb rc_listD (ea_cons h ea_nil)) σ H s _ fun v H1 e1 hv => by
    obtain ⟨a, us, rfl, hS, ha⟩ := hv
    have := ints_of ha
    subst this
    refine ⟨a, _, rfl, hS, fun ns p hp _ hH => ?_⟩
    have hpW : p ≠ W := fun z => by
      subst z
      obtain ⟨x, y, z, h, _⟩ := w.ex
      rw [none_back e1 hH] at h
      cases h
    exact q _ _ (WkR.of_same (e1.trans (same_new hH))) ⟨ns, hp, p, _, hpW, rfl, SqL.of upd_same, all_ints ns⟩
theorem c__law_changed : C8.Cal P w K mg base 5 "_law_changed" (spW 10 (fun p : L => SmL p ∧ K65.W 100 p) (fun W p => [dLot K p]) (fun p => dEx (ChgOk p) (dLot K))) [] := by
  have mlist := F.m_list
  have msorted := F.m_sorted
  have c_law_take := c__law_take (P := P) (w := w) (base := base) F
  have c_law_pick := c__law_pick (P := P) (w := w) (base := base) F
  have c_law_pickL := c__law_pickL (P := P) (w := w) (base := base) F
  have c_law_number := c__law_number (P := P) (w := w) (base := base) F
  have c_law_plus := c__law_plus (P := P) (w := w) (base := base) F
  refine fn_okW F.f__law_changed (N := ["_law_well_here", "_law_lot_here", "_law_spots", "_law_at"]) (C8.fnScope_by (by decide +kernel)) (fun _ _ => rfl) fun sc cdv A outer s H E f hr => ⟨_, (pss_cons (ps_set (i := 2) sc.nd rfl (Or.inl rfl) (pe_callB cr_sortedI (by rfl) msorted (by decide +kernel) (pa_cons (pe_callTy (call_list_dK rfl) (by rfl) mlist (by decide +kernel) (pa_cons (pv 1) pa_nil)) pa_nil))) (pss_cons (ps_set (i := 3) sc.nd rfl (Or.inl rfl) (pe_ifExp (pt_cmpR (op_neD hr.units) (pv 2) (pe_lst pa_nil) (nomark _)) (pe_op op_add (C8.pe_c c_law_pickL hr (by decide) (by rfl) (pa_cons (pv 0) (pa_cons (pv 2) pa_nil))) (C8.pe_c c_law_pick hr (by decide) (by rfl) (pa_cons (pv 0) (pa_cons (pe_tup (pa_cons pe_int (pa_cons pe_int (pa_cons pe_int (pa_cons (pe_un un_neg pe_int) pa_nil))))) pa_nil)))) (pe_op op_sub (C8.pe_c c_law_take hr (by decide) (by rfl) (pa_cons (pv 0) (pa_cons pe_int pa_nil))) pe_int))) (pss_one (ps_ret (C8.pe_c c_law_plus hr (by decide) (by rfl) (pa_cons (pv 1) (pa_cons (pe_disp (pps_cons (pv 3) (C8.pe_c c_law_number hr (by decide) (by rfl) (pa_cons (pv 0) pa_nil)) pps_nil) (by rfl) (by rfl) (fun z => by cases z) (by decide)) pa_nil))))))), fun p hp W => ?_⟩
  obtain ⟨sp, wp⟩ := hp
  refine bw_open (i := 1) rfl fun tm ok => ?_
  have hl := lot_len ok wp (by omega)
  have stT : StW W (dLotT K tm) := stW_stiff stiff_lotT
  have st0 : StL W [some (dV (.ref W)), some (dLotT K tm), none, none] := stL_some stW_V (stL_some stT (stL_none (stL_none stL_nil)))
  refine BdW.le (n := 0 + (3 + 5)) (bw_asg (n := 0) (m := 3 + 5) st0 (ew_sorted (ed_var rfl)) ?_) (by omega)
  refine bw_open (i := 2) rfl fun ns hns => ?_
  have stN : StW W (dNe K W (ns.map fun i => dV (.int i))) := stW_ne fun d hd => by
    obtain ⟨i, _, rfl⟩ := List.mem_map.mp hd
    exact stW_V
  have st1 : StL W [some (dV (.ref W)), some (dLotT K tm), some (dNe K W (ns.map fun i => dV (.int i))), none] := stL_some stW_V (stL_some stT (stL_some stN (stL_none stL_nil)))
  have hln : ns.length = tm.length := by rw [hns.length_eq, List.length_map]
  have hnil : (ns = []) ↔ p = 0 := by
    rw [← ok.nil_iff]
    constructor
    · intro e
      rw [e] at hln
      exact List.length_eq_zero_iff.mp hln.symm
    · intro e
      rw [e] at hln
      exact List.length_eq_zero_iff.mp hln
  have lst : DP.imp (dNe K W (ns.map fun i => dV (.int i))) (dD K (.list (ns.map PyData.int))) := fun v H h => by
    refine imp_lst v H ?_
    rw [List.map_map]
    obtain ⟨a, vs, h1, h2, h3⟩ := imp_ne v H h
    refine ⟨a, vs, h1, h2, ?_⟩
    have h3 := ints_of h3
    subst h3
    have := all_dints (K := K) (H := H) ns
    rw [List.map_map] at this
    exact this
  refine bw_asg (n := 3) (m := 5) st1 (d1 := dEx (fun k : Int => (p ≠ 0 ∧ ∃ j, p.co j ≠ 0 ∧ j - 1 ≤ k ∧ k ≤ j + 1) ∨ (p = 0 ∧ -1 ≤ k ∧ k ≤ 1)) fun k => dV (.int k)) (EvW.le (n := 2) (ew_ifP st1 (eb_test (ed_op (op_neDD (PySem.W.shaped_ints ns) rfl) ((ed_var rfl).imp lst) (EvD.imp (ed_lstP (K := K) (dl := []) ea_nil (by simp)) (imp_lst (xs := []))))) (fun e => ?_) (fun e => ?_)) (by omega)) ?_
  · have hne : ns ≠ [] := fun z => by
      rw [z] at e
      cases e
    have hp0 : p ≠ 0 := fun z => hne (hnil.mpr z)
    refine EvW.le (n := 1 + 1) (ew_op (a := dAmong ns) (b := dAmong [0, 0, 1, -1]) st1 (stW_ex fun _ _ => stW_V) (op_map2 fun x y hx hy => .inl ⟨hp0, x, ?_, ?_⟩) (EvW.le (n := 0 + 0 + 1) (ew_callW (callW (n := 1) (pre := fun ns : List Int => 0 < ns.length ∧ ns.length ≤ 1000) (dl := fun W ns => [dNe K W (ns.map fun i => dV (.int i))]) (d := fun ns => dAmong ns) ns ⟨List.length_pos_iff.mpr hne, by omega⟩) rfl (eaw_cons st1 stN (ew_of (ed_var rfl)) eaw_nil)) (by omega)) (ew_pick (ns := [0, 0, 1, -1]) rfl (by decide) (by decide) (ed_tup (xs := [0, 0, 1, -1].map PyData.int) (ea_cons (ed_v.imp imp_int') (ea_cons (ed_v.imp imp_int') (ea_cons (ed_v.imp imp_int') (ea_cons ((un_neg_d ed_v).imp imp_int') ea_nil)))) (by simp)) st1)) (by omega)
    · have hx' : x ∈ tm.map fun x => x.1 := hns.mem_iff.mp hx
      obtain ⟨z, hz, rfl⟩ := List.mem_map.mp hx'
      have := ok.mem.mp (show (z.1, z.2) ∈ tm from hz)
      rw [this.1]
      exact this.2
    · simp at hy
      omega
  · have hp0 : p = 0 := hnil.mp (by
      cases ns with
      | nil => rfl
      | cons x ns => cases e)
    exact EvW.le (n := 1 + 0) (ew_op st1 stW_upTo (op_mapL fun x hx => .inr ⟨hp0, by omega, by omega⟩) (ew_take rfl ed_v (by decide) (by decide) st1) (ew_of ed_v)) (by omega)
  · refine bw_open (i := 3) rfl fun k hk => ?_
    have st2 : StL W [some (dV (.ref W)), some (dLotT K tm), some (dNe K W (ns.map fun i => dV (.int i))), some (dV (.int k))] := stL_some stW_V (stL_some stT (stL_some stN (stL_some stW_V stL_nil)))
    have kb : -101 ≤ k ∧ k ≤ 101 := by
      rcases hk with ⟨_, j, hj, h1, h2⟩ | ⟨_, h1, h2⟩
      · have := wp j hj
        omega
      · omega
    refine bw_ret (EvW.le (n := 0 + (5 + 0)) (ew_call (callP_2 (S := NumOk) (D := fun q => dLotT K [(k, q)]) fun q hq => ?_) (eaw_cons st2 stW_lot (EvW.imp (ew_of (ed_var rfl)) (imp_lot ok)) (eaw_cons st2 (stW_ex fun _ _ => stW_stiff stiff_lotT) (ew_disp1 (ed_var rfl) (EvW.le (n := 0 + 5) (ew_callW (n := 0) (callW (n := 5) (pre := fun _ : Unit => True) (dl := fun _ _ => []) (d := fun _ => dNum K) () trivial) rfl eaw_nil) (by omega))) eaw_nil))) (by omega))
    obtain ⟨q0, z, hz, hz2⟩ := hq
    have hw : Hw 84 37 (mono k q) := hw_mono (by decide) hz hz2
    have pre : SmL p ∧ SmL (mono k q) ∧ K65.W 200 p ∧ K65.W 200 (mono k q) := ⟨sp, hw.sm (d := 7) (by decide) (by omega) (by omega), K65.W.mono wp (by omega), fun j hj => by
      rw [co_mono] at hj
      by_cases e : k = j
      · omega
      · rw [if_neg e] at hj
        exact absurd rfl hj⟩
    have c := callP (pre := fun q : L × L => SmL q.1 ∧ SmL q.2 ∧ K65.W 200 q.1 ∧ K65.W 200 q.2) (dl := fun q => [dLot K q.1, dLot K q.2]) (d := fun q => dLot K (q.1 + q.2)) (p, mono k q) pre
    intro vs H hv Q E qq
    cases hv with
    | cons h1 h2 => cases h2 with
      | cons h3 h4 =>
        cases h4
        exact c _ H (.cons h1 (.cons (imp_lot (lot_one q0) _ _ h3) .nil)) Q E fun v H' e hv => qq v H' e ⟨p + mono k q, ⟨k, q, ⟨q0, z, hz, hz2⟩, rfl, hk⟩, hv⟩
end
end K65

/-! K65LN: two rows drawn; the well -/
namespace K65
open PySem PySem.Spec PyProof.Rows L2
def RowOk (a : L) : Prop := NearOk 4 a ∨ a = 0 ∨ (∃ p, NearOk 4 p ∧ a = spread p) ∨ (∃ p s, NearOk 4 p ∧ NearOk 2 s ∧ a = p * spread s)
theorem NearOk.w {m : Int} {p : L} (h : NearOk m p) (hm : m ≤ 4) : W 4 p := by
  obtain ⟨⟨s, h1, h2, h3⟩, _⟩ := h
  intro k hk
  have := h3 k hk
  omega
theorem NearOk.width {m : Int} {p : L} (h : NearOk m p) (hm : 0 ≤ m) : (width p : Int) ≤ m := by
  obtain ⟨⟨s, h1, h2, h3⟩, _⟩ := h
  have := width_in h3 (by omega)
  omega
theorem NearOk.hb {m : Int} {p : L} (h : NearOk m p) : Hb 7 37 p := ⟨84, by decide, h.2⟩
theorem w_spread {a : Int} {p : L} (h : W a p) : W (2 * a) (spread p) := fun k hk => by
  rw [co_spread] at hk
  split at hk
  · have := h _ hk
    omega
  · exact absurd rfl hk
theorem Hb.spread {d e : Nat} {p : L} (h : Hb d e p) : Hb d e (spread p) := by
  obtain ⟨m, h1, h2⟩ := h
  exact ⟨m, h1, h2.spread⟩
theorem width_spread {p : L} : width (spread p) ≤ 2 * width p := by
  by_cases e : p = 0
  · rw [e, spread_zero, width_zero]
    omega
  · obtain ⟨n, tn⟩ := exists_top e
    obtain ⟨m, bm⟩ := exists_bot e
    have := bm.le_top tn
    have hin : In (2 * m) (2 * n + 1) (spread p) := fun k hk => by
      rw [co_spread] at hk
      split at hk
      · have := tn.2 _ hk
        have := bm.2 _ hk
        omega
      · exact absurd rfl hk
    have := width_in hin (by omega)
    rw [width_eq tn bm]
    omega
theorem tm_near {p s : L} (hp : NearOk 4 p) (hs : NearOk 2 s) : TmOk p (spread s) := by
  have w1 := hp.width (by decide)
  have w2 := hs.width (by decide)
  have w3 := width_spread (p := s)
  exact ⟨⟨(hp.w (by decide)).mono (by omega), (w_spread (hs.w (by decide))).mono (by omega), 7, 37, 7, 37, 2, hp.hb, hs.hb.spread, by show width p ≤ 4; omega, by omega, by omega⟩, Nat.le_trans (Nat.mul_le_mul (show width p ≤ 4 by omega) (show width (spread s) ≤ 4 by omega)) (by decide)⟩
/-- both near 0, or rows that do not tell -/
def TwoOk (q : L × L) : Prop := (NearOk 4 q.1 ∧ NearOk 4 q.2) ∨ (RowOk q.1 ∧ RowOk q.2 ∧ even q.1 * odd q.2 - odd q.1 * even q.2 = 0)
theorem TwoOk.ra {q : L × L} (h : TwoOk q) : RowOk q.1 := h.elim (fun h => .inl h.1) fun h => h.1
theorem TwoOk.rb {q : L × L} (h : TwoOk q) : RowOk q.2 := h.elim (fun h => .inl h.2) fun h => h.2.1
theorem even_mul_spread (p s : L) : even (p * spread s) = even p * s := by rw [L.mul_comm, even_spread_mul, L.mul_comm]
theorem odd_mul_spread (p s : L) : odd (p * spread s) = odd p * s := by rw [L.mul_comm, odd_spread_mul, L.mul_comm]
def dTwo (K : PySem.W.Frag) : DP := dEx TwoOk fun q => dLst K [dLot K q.1, dLot K q.2]
section
variable {P : Program} {w : World} {mg : Str → Option Value} {base : Heap} {K : PySem.W.Frag} {ds ds' ds1 : List (Option DP)} {te ta tb tl th : TE} {tas : TA} {tt tu : TT} {t u : TS} {a b d d1 d2 d3 : DP} {dl : List DP} {W : Addr} {n m : Nat}
theorem stW_two : StW W (dTwo K) := stW_ex fun q _ => stW_lst lot_noint fun d hd => by
  rcases List.mem_cons.mp hd with z | z
  · rw [z]
    exact stW_lot
  · rw [List.mem_singleton.mp z]
    exact stW_lot
theorem two_noint : ∀ v H, (dTwo K).is v H → ∀ i, v ≠ .int i := fun v H h i e => by
  obtain ⟨q, _, a, vs, rfl, _⟩ := h
  cases e
theorem imp_two {p q : L} (hp : TwoOk (p, q)) : DP.imp (dLst K [dLot K p, dLot K q]) (dTwo K) := fun v H h => ⟨(p, q), hp, h⟩
theorem imp_lst2 {α β : Type} {S : α → Prop} {D : α → DP} {S' : β → Prop} {D' : β → DP} : DP.imp (dLst K [dEx S D, dEx S' D']) (dEx (fun q : α × β => S q.1 ∧ S' q.2) fun q => dLst K [D q.1, D' q.2]) := fun v H h => by
  obtain ⟨a, vs, h1, h2, h3⟩ := h
  cases h3 with
  | cons a1 r1 => cases r1 with
    | cons a2 r2 =>
      cases r2
      obtain ⟨x, hx, k1⟩ := a1
      obtain ⟨y, hy, k2⟩ := a2
      exact ⟨(x, y), ⟨hx, hy⟩, a, _, h1, h2, .cons k1 (.cons k2 .nil)⟩
theorem bw_par3 {i j l : Nat} (st : StL W ds) (h : EvAW W n tas ds [d1, d2, d3]) (k : BdW W m u (((ds.set i (some d1)).set j (some d2)).set l (some d3)) d) : BdW W (n + m) (tSeq (tPar3 i j l tas) u) ds d := fun D σ H B s w hB q =>
  h σ H B s w (by omega) _ fun vs H1 c1 hv => by
    cases hv with
    | @cons _ _ v1 _ _ h1 r1 => cases r1 with
      | @cons _ _ v2 _ _ h2 r2 => cases r2 with
        | @cons _ _ v3 _ _ h3 r3 =>
          cases r3
          exact ⟨v1, v2, v3, rfl, k D _ H1 (B + n) ((((s.wk st w c1).set i h1).set j h2).set l h3) (c1.well B w) (by omega) fun x H2 c2 hx => q x H2 (c1.trans c2) hx⟩
/-- near(well, m) -/
theorem ew_near {mm : Int} {E : XK} {i : Nat} (h0 : ds[i]? = some (some (dV (.ref W)))) (h1 : 1 ≤ mm ∧ mm ≤ 4) (st : StL W ds) :
    EvW W 30 (tCall (spW 30 (fun m : Int => 1 ≤ m ∧ m ≤ 4) (fun W m => [dV (.int m)]) (fun m => dNear K m)) [] E (tCons (tVar i) (tCons (tC (.int mm)) tNil))) ds (dNear K mm) :=
  (ew_callW (callW mm h1) h0 (eaw_cons st stW_V (ew_of ed_v) eaw_nil)).le (by omega)
theorem stW_near {m : Int} : StW W (dNear K m) := stW_ex fun _ _ => stW_lot
variable (F : Facts K mg)
include F
theorem c__law_two : C8.Cal P w K mg base 5 "_law_two" (spW 130 (fun _ : Unit => True) (fun W _ => []) (fun _ => dTwo K)) [] := by
  have c_law_take := c__law_take (P := P) (w := w) (base := base) F
  have c_law_near := c__law_near (P := P) (w := w) (base := base) F
  have c_law_times := c__law_times (P := P) (w := w) (base := base) F
  have c_law_spread := c__law_spread (P := P) (w := w) (base := base) F
  refine fn_okW F.f__law_two (N := ["_law_well_here", "_law_one", "_law_two_here", "_law_way"]) (C8.fnScope_by (by decide +kernel)) (fun _ _ => rfl) fun sc cdv A outer s H E f hr => ⟨_, (pss_cons (ps_par3 (i := 1) (j := 2) (l := 3) rfl sc.nd rfl rfl rfl (by decide) (by decide) (by decide) rfl rfl rfl (pa_cons (C8.pe_c c_law_near hr (by decide) (by rfl) (pa_cons (pv 0) (pa_cons pe_int pa_nil))) (pa_cons (C8.pe_c c_law_near hr (by decide) (by rfl) (pa_cons (pv 0) (pa_cons pe_int pa_nil))) (pa_cons (C8.pe_c c_law_take hr (by decide) (by rfl) (pa_cons (pv 0) (pa_cons pe_int pa_nil))) pa_nil))) (by rfl)) (pss_cons (ps_if (pt_cmpR op_lt (pv 3) pe_int (nomark _)) (pss_one (ps_ret (pe_lst (pa_cons (pv 1) (pa_cons (pv 2) pa_nil))))) pss_nil) (pss_cons (ps_if (pt_cmpR op_lt (pv 3) pe_int (nomark _)) (pss_one (ps_ret (pe_lst (pa_cons (C8.pe_c c_law_times hr (by decide) (by rfl) (pa_cons (pv 1) (pa_cons (C8.pe_c c_law_spread hr (by decide) (by rfl) (pa_cons (C8.pe_c c_law_near hr (by decide) (by rfl) (pa_cons (pv 0) (pa_cons pe_int pa_nil))) pa_nil)) pa_nil))) (pa_cons (C8.pe_c c_law_times hr (by decide) (by rfl) (pa_cons (pv 1) (pa_cons (C8.pe_c c_law_spread hr (by decide) (by rfl) (pa_cons (C8.pe_c c_law_near hr (by decide) (by rfl) (pa_cons (pv 0) (pa_cons pe_int pa_nil))) pa_nil)) pa_nil))) pa_nil))))) pss_nil) (pss_one (ps_ret (pe_ix (r := rIxL K) ix_list (pe_lst (pa_cons (pe_lst (pa_cons (pv 1) (pa_cons pe_dnewK pa_nil))) (pa_cons (pe_lst (pa_cons pe_dnewK (pa_cons (pv 2) pa_nil))) (pa_cons (pe_lst (pa_cons (C8.pe_c c_law_spread hr (by decide) (by rfl) (pa_cons (pv 1) pa_nil)) (pa_cons (C8.pe_c c_law_spread hr (by decide) (by rfl) (pa_cons (pv 2) pa_nil)) pa_nil))) (pa_cons (pe_lst (pa_cons pe_dnewK (pa_cons pe_dnewK pa_nil))) (pa_cons (pe_lst (pa_cons (pv 1) (pa_cons (pv 1) pa_nil))) pa_nil)))))) (C8.pe_c c_law_take hr (by decide) (by rfl) (pa_cons (pv 0) (pa_cons pe_int pa_nil))) (fun _ _ => rfl))))))), fun q hq W => ?_⟩
  have st0 : StL W [some (dV (.ref W)), none, none, none] := stL_some stW_V (stL_none (stL_none (stL_none stL_nil)))
  refine BdW.le (n := 61 + (0 + (0 + 60))) (bw_par3 (n := 61) (m := 0 + (0 + 60)) st0 (EvAW.le (eaw_cons st0 stW_near (ew_near (K := K) rfl (by decide) st0) (eaw_cons st0 stW_near (ew_near (K := K) rfl (by decide) st0) (eaw_cons st0 stW_upTo (ew_take rfl ed_v (by decide) (by decide) st0) eaw_nil))) (by omega)) ?_) (by omega)
  refine bw_open (i := 1) rfl fun p hp => bw_open (i := 2) rfl fun p' hp' => bw_open (i := 3) rfl fun way hway => ?_
  have st1 : StL W [some (dV (.ref W)), some (dLot K p), some (dLot K p'), some (dV (.int way))] := stL_some stW_V (stL_some stW_lot (stL_some stW_lot (stL_some stW_V stL_nil)))
  have r1 : RowOk p := .inl hp
  have r2 : RowOk p' := .inl hp'
  have r0 : RowOk 0 := .inr (.inl rfl)
  refine bw_if (n := 0) (m := 0 + 60) st1 (ebw_test (EvW.imp (ew_of (ed_op op_I0 (ed_var rfl) ed_v)) (imp_exI (S := fun _ : Bool => True) (D := fun b => dV (.bl b)) trivial))) (BdW.le (n := 0) (bw_ret (ew_of (EvD.imp (ed_lstP (ea_cons (ed_var rfl) (ea_cons (ed_var rfl) ea_nil)) (by simp)) (imp_two (.inl ⟨hp, hp'⟩))))) (by omega)) ?_
  refine bw_if (n := 0) (m := 60) st1 (ebw_test (EvW.imp (ew_of (ed_op op_I0 (ed_var rfl) ed_v)) (imp_exI (S := fun _ : Bool => True) (D := fun b => dV (.bl b)) trivial))) ?_ ?_
  · -- one row times two
    have one : EvW W 30 (tCall (spF (fun q : L × L => TmOk q.1 q.2) (fun q => [dLot K q.1, dLot K q.2]) (fun q => dLot K (q.1 * q.2))) [] C8.E0 (tCons (tVar 1) (tCons (tCall (spF (fun p : L => K65.W 200 p) (fun p => [dLot K p]) (fun p => dLot K (spread p))) [] C8.E0 (tCons (tCall (spW 30 (fun m : Int => 1 ≤ m ∧ m ≤ 4) (fun W m => [dV (.int m)]) (fun m => dNear K m)) [] C8.E0 (tCons (tVar 0) (tCons (tC (.int 2)) tNil))) tNil)) tNil)))
        [some (dV (.ref W)), some (dLot K p), some (dLot K p'), some (dV (.int way))] (dEx (NearOk 2) fun s => dLot K (p * spread s)) := by
      refine EvW.le (n := 0 + (30 + 0 + 0)) (ew_call (callP_2 (S := NearOk 2) (D := fun s => dLot K (spread s)) fun s hs => CallP.imp (callP (p, spread s) (tm_near hp hs)) (imp_exI (D := fun s => dLot K (p * spread s)) hs)) (eaw_cons st1 stW_lot (ew_of (ed_var rfl)) (eaw_cons st1 (stW_ex fun _ _ => stW_lot) (ew_call (callP_l fun s hs => CallP.imp (callP s ((hs.w (by decide)).mono (by omega))) (imp_exI (D := fun s => dLot K (spread s)) hs)) (eaw_cons st1 stW_near (ew_near rfl (by decide) st1) eaw_nil)) eaw_nil))) (by omega)
    refine bw_ret (EvW.imp (EvW.imp (EvW.le (n := 30 + (30 + 0)) (ew_lst (K := K) (eaw_cons st1 (stW_ex fun _ _ => stW_lot) one (eaw_cons st1 (stW_ex fun _ _ => stW_lot) one eaw_nil)) (by simp)) (by omega)) imp_lst2) fun v H h => ?_)
    obtain ⟨⟨s, s'⟩, ⟨h1, h2⟩, h3⟩ := h
    have tw5 : TwoOk (p * spread s, p * spread s') := .inr ⟨.inr (.inr (.inr ⟨p, s, hp, h1, rfl⟩)), .inr (.inr (.inr ⟨p, s', hp, h2, rfl⟩)), by
      show even (p * spread s) * odd (p * spread s') - odd (p * spread s) * even (p * spread s') = 0
      rw [even_mul_spread, even_mul_spread, odd_mul_spread, odd_mul_spread]
      grind⟩
    exact ⟨(p * spread s, p * spread s'), tw5, h3⟩
  · have w4 : K65.W 200 p := (hp.w (by decide)).mono (by omega)
    have w4' : K65.W 200 p' := (hp'.w (by decide)).mono (by omega)
    have sp1 : RowOk (spread p) := .inr (.inr (.inl ⟨p, hp, rfl⟩))
    have sp2 : RowOk (spread p') := .inr (.inr (.inl ⟨p', hp', rfl⟩))
    have tw0 : ∀ x : L, RowOk x → TwoOk (x, 0) := fun x hx => .inr ⟨hx, r0, by
      show even x * odd 0 - odd x * even 0 = 0
      rw [even_zero, odd_zero]
      grind⟩
    have tw1 : TwoOk (0, p') := .inr ⟨r0, r2, by
      show even 0 * odd p' - odd 0 * even p' = 0
      rw [even_zero, odd_zero]
      grind⟩
    have tw2 : TwoOk (spread p, spread p') := .inr ⟨sp1, sp2, by
      show even (spread p) * odd (spread p') - odd (spread p) * even (spread p') = 0
      rw [odd_spread, odd_spread]
      grind⟩
    have tw3 : TwoOk (p, p) := .inl ⟨hp, hp⟩
    refine bw_ret (EvW.le (n := 0 + 1) (ew_op (a := dLst K [dTwo K, dTwo K, dTwo K, dTwo K, dTwo K]) st1 (stW_lst two_noint fun d hd => ?_) (opP_r fun r hr => ?_) (ew_of (ed_lstP (ea_cons (EvD.imp (ed_lstP (ea_cons (ed_var rfl) (ea_cons ed_no ea_nil)) (by simp)) (imp_two (tw0 p r1))) (ea_cons (EvD.imp (ed_lstP (ea_cons ed_no (ea_cons (ed_var rfl) ea_nil)) (by simp)) (imp_two tw1)) (ea_cons (EvD.imp (ed_lstP (ea_cons (ed_call (callP p w4) (ea_cons (ed_var rfl) ea_nil)) (ea_cons (ed_call (callP p' w4') (ea_cons (ed_var rfl) ea_nil)) ea_nil)) (by simp)) (imp_two tw2)) (ea_cons (EvD.imp (ed_lstP (ea_cons ed_no (ea_cons ed_no ea_nil)) (by simp)) (imp_two (tw0 0 r0))) (ea_cons (EvD.imp (ed_lstP (ea_cons (ed_var rfl) (ea_cons (ed_var rfl) ea_nil)) (by simp)) (imp_two tw3)) ea_nil))))) (by simp))) (ew_take rfl ed_v (by decide) (by decide) st1)) (by omega))
    · have : d = dTwo K := by simpa using hd
      rw [this]
      exact stW_two
    · have : r = 0 ∨ r = 1 ∨ r = 2 ∨ r = 3 ∨ r = 4 := by omega
      rcases this with e | e | e | e | e <;> subst e <;> exact op_ixLP rfl
end
end K65

/-! K65LO: repr; the well filled -/
namespace K65
open PySem PySem.Spec PyProof.Rows L2
/-! ### repr -/
/-- the text of such data fits -/
structure ShOk (x : PyData) : Prop where
  s : x.showable = true
  n : x.hasDict = false
  d : PyData.depth x ≤ 64
  z : x.shown.length ≤ sizeLine
def rRepr (K : PySem.W.Frag) : List V → Hp → VK → Prop := fun xs H Q => ∃ x d, xs = [x] ∧ Dp K H x d ∧ ShOk d ∧ (d = .none ∨ ∃ a, x = .ref a) ∧ Q (.str d.shown) H
theorem call_reprD {X : Cx} (hg : X.A.guards = some []) (hu : X.A.units + 70 < cLine) : CallR X (.builtin "repr") (rRepr X.K) := by
  intro pins s σ H xs us Q I r h
  obtain ⟨x, d, rfl, hd, sh, hc, q⟩ := h
  obtain ⟨u, rfl, rx⟩ := vals1 r
  rcases hc with e | ⟨a, e⟩
  · subst e
    cases hd
    obtain rfl : u = Value.none := rx
    exact PySem.P.repr_of_none ⟨.str _, H, I.tok _, ⟨_, rfl⟩, q⟩
  · subst e
    obtain ⟨as, rd⟩ := Dp.reads I d _ u hd rx
    obtain rfl : u = Value.ref a := rx
    have hdep := sh.d
    exact repr_of_reads' (h₀ := s.heap) rd sh.s (fun e => by rw [sh.n] at e; cases e) hg (by omega) (fun _ _ e => e) (fun h' u tk hk => ⟨.str _, H, I.kept hk, ⟨_, rfl⟩, q⟩) sh.z
/-! ### which rows may be told -/
def TellN (x : Rat) : Prop := x.num.natAbs < 2 ^ 1900 ∧ x.den < 2 ^ 1900
structure TellP (p : L) : Prop where
  c : ∀ k, TellN (p.co k)
  w : W 80 p
theorem log_1920 {n : Nat} (h : n < 2 ^ 1900) : n.log2 < 1920 := by
  by_cases z : n = 0
  · subst z
    decide
  · have := (Nat.log2_lt z).mpr h
    omega
theorem show_rat {x : Rat} (h : TellN x) : PyData.showable (ratD x) = true ∧ (PyData.shown (ratD x)).length ≤ 3860 := by
  have h1 := log_1920 h.1
  have h2 : ((x.den : Int)).natAbs.log2 < 1920 := log_1920 (by simpa using h.2)
  refine ⟨?_, ?_⟩
  · show (decide (x.num.natAbs.log2 < 1920) && (decide ((x.den : Int).natAbs.log2 < 1920) && true)) = true
    rw [decide_eq_true h1, decide_eq_true h2]
    rfl
  · have e1 : (PyData.shown (.int x.num)).length ≤ 1921 := int_text_len_1921 h1
    have e2 : (PyData.shown (.int (x.den : Int))).length ≤ 1921 := int_text_len_1921 h2
    have := tupleText_len_le [PyData.shown (.int x.num), PyData.shown (.int (x.den : Int))]
    have e3 : (PyData.shown (ratD x)) = tupleText [PyData.shown (.int x.num), PyData.shown (.int (x.den : Int))] := rfl
    rw [e3]
    simp at this
    omega
theorem show_rats : ∀ xs : List Rat, (∀ x ∈ xs, TellN x) → PyData.showableAll (xs.map ratD) = true ∧ ((PyData.shownAll (xs.map ratD)).map (·.length)).sum ≤ 3860 * xs.length ∧ PyData.hasDictAll (xs.map ratD) = false
  | [], _ => ⟨rfl, Nat.le_refl _, rfl⟩
  | x :: xs, h => by
    obtain ⟨a, b, c⟩ := show_rats xs fun y hy => h y (List.mem_cons_of_mem _ hy)
    obtain ⟨d, e⟩ := show_rat (h x List.mem_cons_self)
    refine ⟨?_, ?_, ?_⟩
    · show (PyData.showable (ratD x) && PyData.showableAll (xs.map ratD)) = true
      rw [a, d]
      rfl
    · show (PyData.shown (ratD x)).length + ((PyData.shownAll (xs.map ratD)).map (·.length)).sum ≤ 3860 * (xs.length + 1)
      omega
    · show (PyData.hasDict (ratD x) || PyData.hasDictAll (xs.map ratD)) = false
      rw [c]
      rfl
theorem show_p {p : L} (h : TellP p) : PyData.showable (pD p) = true ∧ (PyData.shown (pD p)).length ≤ 700000 ∧ PyData.hasDict (pD p) = false := by
  have hw := row_w (by omega) h.w
  have hm : ∀ x ∈ (rowOf p).2, TellN x := fun x hx => by
    obtain ⟨k, rfl⟩ := row_mem hx
    exact h.c k
  obtain ⟨a, b, c⟩ := show_rats _ hm
  have hsm : (rowOf p).1.natAbs.log2 < 1920 := log_1920 (Nat.lt_of_le_of_lt (show (rowOf p).1.natAbs ≤ 100 by omega) (Nat.lt_of_lt_of_le (show 100 < 2 ^ 10 by decide) (Nat.pow_le_pow_right (by decide) (by decide))))
  have e1 : (PyData.shown (.int (rowOf p).1)).length ≤ 1921 := int_text_len_1921 hsm
  refine ⟨?_, ?_, ?_⟩
  · show (decide ((rowOf p).1.natAbs.log2 < 1920) && (PyData.showableAll ((rowOf p).2.map ratD) && true)) = true
    rw [a, decide_eq_true hsm]
    rfl
  · have l1 := tupleText_len_le (PyData.shownAll ((rowOf p).2.map ratD))
    have l2 := tupleText_len_le [PyData.shown (.int (rowOf p).1), PyData.shown (fracsD (rowOf p).2)]
    have e3 : PyData.shown (fracsD (rowOf p).2) = tupleText (PyData.shownAll ((rowOf p).2.map ratD)) := rfl
    have e4 : PyData.shown (pD p) = tupleText [PyData.shown (.int (rowOf p).1), PyData.shown (fracsD (rowOf p).2)] := rfl
    have e5 := PyData.shownAll_length ((rowOf p).2.map ratD)
    rw [List.length_map] at e5
    rw [e4]
    rw [e3] at l2 ⊢
    simp at l2
    omega
  · show (false || (PyData.hasDictAll ((rowOf p).2.map ratD) || false)) = false
    rw [c]
    rfl
theorem sh_pair {p q : L} (hp : TellP p) (hq : TellP q) : ShOk (pairD p q) := by
  obtain ⟨a1, a2, a3⟩ := show_p hp
  obtain ⟨b1, b2, b3⟩ := show_p hq
  have d1 := depth_row (rowOf p)
  have d2 := depth_row (rowOf q)
  refine ⟨?_, ?_, ?_, ?_⟩
  · show (PyData.showable (pD p) && (PyData.showable (pD q) && true)) = true
    rw [a1, b1]
    rfl
  · show (PyData.hasDict (pD p) || (PyData.hasDict (pD q) || false)) = false
    rw [a3, b3]
    rfl
  · show max (PyData.depth (pD p)) (max (PyData.depth (pD q)) 0) + 1 ≤ 64
    unfold pD
    omega
  · have := tupleText_len_le [PyData.shown (pD p), PyData.shown (pD q)]
    have e : PyData.shown (pairD p q) = tupleText [PyData.shown (pD p), PyData.shown (pD q)] := rfl
    rw [e, sizeLine_eq]
    simp at this
    omega
theorem sh_none : ShOk .none := ⟨rfl, rfl, Nat.zero_le _, by decide⟩
section
variable {P : Program} {w : World} {mg : Str → Option Value} {base : Heap} {K : PySem.W.Frag} {ds ds' ds1 : List (Option DP)} {te ta tb tl th : TE} {tas : TA} {tt tu : TT} {t u : TS} {a b d d1 d2 d3 : DP} {dl : List DP} {W : Addr} {n m : Nat}
theorem rc_repr {x : PyData} (sh : ShOk x) (hx : x = .none ∨ ∃ xs, x = .tuple xs) : RcP (rRepr K) [dD K x] (dV (.str x.shown)) := fun vs H h Q q => by
  cases h with
  | cons h1 h2 =>
    cases h2
    refine ⟨_, x, rfl, h1, sh, ?_, q _ H (Same.refl H) rfl⟩
    rcases hx with e | ⟨xs, e⟩
    · exact .inl e
    · subst e
      cases h1 with
      | @tup a _ _ _ _ => exact .inr ⟨a, rfl⟩
/-! ### the script -/
theorem ed_sliceTo {dl : List DP} {hi : Nat} (h : EvD te ds (dLst K dl)) (hh : EvD th ds (dV (.int (hi : Int)))) : EvD (tSl (rSlL K) te tNoPart (tPart th)) ds (dLst K (dl.take hi)) := fun σ H s Q q =>
  h σ H s _ fun v H1 e1 hv => hh σ H1 (s.mono e1) _ fun y H3 e3 hy => by
    cases hy
    obtain ⟨a, us, rfl, hS, ha⟩ := (dLst K dl).mono e3 hv
    have hlen := ha.length
    refine ⟨_, rfl, a, us, rfl, hS, fun p hp => q _ _ ((e1.trans e3).trans (same_new hp)) ⟨p, _, rfl, SqL.of upd_same, ?_⟩⟩
    refine AllIs.mono (same_new hp) ?_
    unfold cutV
    rw [HT.sIx_nat, HT.sIx_none, List.drop_zero, Nat.sub_zero]
    have := ha.take hi
    have e : us.take (min hi us.length) = us.take hi := by
      by_cases z : hi ≤ us.length
      · rw [Nat.min_eq_left z]
      · rw [Nat.min_eq_right (by omega), List.take_length, List.take_of_length_le (by omega)]
    rw [e]
    exact this
/-- for x in a list -/
theorem st_forL {i : Nat} {dsj : Nat → List (Option DP)} (h : EvD te ds (dLst K dl)) (h0 : dsj 0 = ds) (hs : ∀ j d, dl[j]? = some d → StD t ((dsj j).set i (some d)) (dsj (j + 1))) : StD (tFor (iList K te) (gName i) t) ds (dsj dl.length) := fun D σ H s q =>
  h σ H s _ fun v H1 e1 hv => by
    obtain ⟨a, us, rfl, hS, ha⟩ := hv
    refine ⟨a, rfl, ⟨us, hS⟩, ?_⟩
    have hl : us.length = dl.length := ha.length
    refine for_it (walk_list (K := K) (a := a) (xs := us)) (fun j σ2 H2 => Same H1 H2 ∧ Sl σ2 (dsj j) H2) ⟨Same.refl H1, h0 ▸ s.mono e1⟩ (fun j σ2 H2 _ hp => hp.1.seq hS) (fun j x σ2 H2 H3 hj hp hy => ?_) (fun σ2 H2 hp => ?_)
    · obtain ⟨rfl, hx⟩ := hy
      have ej : dl[j]? = some dl[j] := List.getElem?_eq_getElem (by omega)
      obtain ⟨w, h1, h2⟩ := (ha.mono hp.1).get ej
      rw [hx] at h1
      have h1 : x = w := Option.some.inj h1
      subst h1
      exact hs j _ ej _ _ _ (hp.2.set i h2) fun σ3 H4 e4 s4 => ⟨hp.1.trans e4, s4⟩
    · rw [hl] at hp
      exact q σ2 H2 (e1.trans hp.1) hp.2
theorem st_open {i : Nat} {α : Type} {S : α → Prop} {D : α → DP} (h : ds[i]? = some (some (dEx S D))) (k : ∀ x, S x → StD t (ds.set i (some (D x))) ds') : StD t ds ds' := fun Dn σ H s q => by
  obtain ⟨v, h1, x, hx, h2⟩ := s.at' i _ h
  refine k x hx Dn σ H ?_ q
  have := s.set i (v := v) h2
  have e : σ.set i (some v) = σ := by
    apply List.ext_getElem?
    intro j
    rw [List.getElem?_set]
    by_cases z : i = j
    · subst z
      rw [if_pos rfl, if_pos (List.getElem?_eq_some_iff.mp h1).1, h1]
    · rw [if_neg z]
  rw [e] at this
  exact this
theorem r_st (h : StD t ds ds1) (k : BdR u ds1 d) : BdR (tSeq t u) ds d := fun D σ H s q => h { D with nx := u D } σ H s fun σ1 H1 e1 s1 => k D σ1 H1 s1 fun v H2 b e e2 hb hv => q v H2 b e (e1.trans e2) (none_back e1 hb) hv
theorem retLst {σ : L2.St} {H : Hp} {D : Ends} (h : EvA tas ds dl) (hl : dl.length ≤ 1000) (s : Sl σ ds H) (q : ∀ vs H' p, Same H H' → AllIs dl vs H' → H' p = none → D.rt (.ref p) (upd H' p (.lst vs))) : tRet (tLst tas) D σ H :=
  h σ H s _ fun vs H1 e1 hvs => ⟨small1000' (by rw [hvs.length]; exact hl), fun p hp => q vs H1 p e1 hvs hp⟩
/-- the well at its address -/
def dWell : DP := ⟨fun v H => ∃ W, v = .ref W ∧ WellAt W 0 H, fun e h => by
  obtain ⟨W, h1, h2⟩ := h
  exact ⟨W, h1, h2.same e⟩⟩
def dMix : DP := dEx (fun x : Int => 0 ≤ x ∧ x < 2147483629) fun x => dV (.int x)
theorem sm100 {i : Int} (h1 : 0 ≤ i) (h2 : i < 10000000000) : i.natAbs < 2 ^ 100 := Nat.lt_trans (show i.natAbs < 10000000000 by omega) (by decide)
variable (F : Facts K mg)
include F
theorem c__law_rounds : C8.Cal P w K mg base 1 "_law_rounds" (spF (fun _ : List Int => True) (fun ns => [dInts K ns]) (fun ns => dV (.int (max 2 (min (ns.length : Int) 3))))) [] := by
  have mmax := F.m_max
  have mmin := F.m_min
  have mlen := F.m_len
  refine fn_ok F.f__law_rounds (N := ["_law_script"]) (C8.fnScope_by (by decide +kernel)) (fun _ => rfl) fun sc cdv A outer s H E f hr => ⟨_, (pss_one (ps_ret (pe_callB (call_max2 rfl) (by rfl) mmax (by decide +kernel) (pa_cons pe_int (pa_cons (pe_callB (call_min2 rfl) (by rfl) mmin (by decide +kernel) (pa_cons (pe_callB call_len (by rfl) mlen PySem.boot_len (pa_cons (pv 0) pa_nil)) (pa_cons pe_int pa_nil))) pa_nil))))), fun q hq => ?_⟩
  have ln : EvD _ _ _ := ed_cb (rc_lenL (K := K) (dl := q.map fun i => dV (.int i))) (ea_cons (ed_var (ds := slots ["_law_script"] [dInts K q]) (i := 0) rfl) ea_nil)
  rw [List.length_map] at ln
  exact b_ret (ed_cb rc_max2 (ea_cons ed_v (ea_cons (ed_cb rc_min2 (ea_cons ln (ea_cons ed_v ea_nil))) ea_nil)))
theorem c__law_well : C8.Cal P w K mg base 1 "_law_well" (spR (fun q : List Int × Int => q.1.length ≤ 1000 ∧ 0 ≤ q.2 ∧ q.2 ≤ 1000) (fun q => [dInts K q.1, dV (.int q.2)]) (fun _ => dWell)) [] := by
  have mabs := F.m_abs
  have mint := F.m_int
  have mlen := F.m_len
  refine fn_okR F.f__law_well (N := ["_law_script", "_law_turn", "_law_mixed", "_law_cell", "_law_own"]) (C8.fnScope_by (by decide +kernel)) (fun _ => rfl) fun sc cdv A outer s H E f hr => ⟨_, (pss_cons (ps_set (i := 2) sc.nd rfl (Or.inl rfl) (pe_op op_add pe_int (pe_op op_mulW pe_int (pv 1)))) (pss_cons (ps_for PassesOwn.never rfl (pi_list (pe_slice sl_list (pv 0) po_none (po_some pe_int))) (pg_name (i := 3) sc.nd rfl (Or.inl rfl)) (pss_one (ps_set (i := 2) sc.nd rfl (Or.inl rfl) (pe_op op_modN (pe_callTy call_int1 (by rfl) mint (by decide +kernel) (pa_cons (pe_op op_add (pe_op op_add (pe_op op_mulW (pv 2) pe_int) (pe_op op_modN (pe_callTy call_int1 (by rfl) mint (by decide +kernel) (pa_cons (pv 3) pa_nil)) pe_int)) pe_int) pa_nil)) pe_int)))) (pss_cons (ps_set (i := 4) sc.nd rfl (Or.inl rfl) (pe_ifExp (pt_cmpR op_lt (pv 1) (pe_callB call_len (by rfl) mlen PySem.boot_len (pa_cons (pv 0) pa_nil)) (nomark _)) (pe_callB call_abs (by rfl) mabs (by decide +kernel) (pa_cons (pe_callTy call_int1 (by rfl) mint (by decide +kernel) (pa_cons (pe_ix (r := rIxL K) ix_list (pv 0) (pv 1) (fun _ _ => rfl)) pa_nil)) pa_nil)) (pe_op op_add pe_int (pe_op op_mulW pe_int (pv 1))))) (pss_cons (ps_set (i := 2) sc.nd rfl (Or.inl rfl) (pe_op op_modN (pe_callTy call_int1 (by rfl) mint (by decide +kernel) (pa_cons (pe_op op_add (pe_op op_add (pe_op op_mulW (pv 2) pe_int) (pe_op op_mulW (pe_op op_modN (pe_callTy call_int1 (by rfl) mint (by decide +kernel) (pa_cons (pv 4) pa_nil)) pe_int) pe_int)) pe_int) pa_nil)) pe_int)) (pss_one (ps_ret (pe_lst (pa_cons (pe_ifExp (pt_cmpR op_ge (pv 4) (pe_op op_pow pe_int pe_int) (nomark _)) (pv 4) pe_int) (pa_cons (pv 2) (pa_cons pe_int pa_nil)))))))))), fun q hq => ?_⟩
  obtain ⟨ns, tn⟩ := q
  obtain ⟨hl, h0, h1⟩ := hq
  replace hl : ns.length ≤ 1000 := hl
  replace h0 : 0 ≤ tn := h0
  replace h1 : tn ≤ 1000 := h1
  have mixI : ∀ z : Int, DP.imp (dV (.int (z % 2147483629))) dMix := fun z => imp_exI (D := fun x => dV (.int x)) ⟨Int.emod_nonneg _ (by decide), Int.emod_lt_of_pos _ (by decide)⟩
  have mod1 : ∀ z : Int, 0 ≤ z % 2147483563 ∧ z % 2147483563 < 2147483563 := fun z => ⟨Int.emod_nonneg _ (by decide), Int.emod_lt_of_pos _ (by decide)⟩
  have mod2 : ∀ z : Int, 0 ≤ z % 2147483549 ∧ z % 2147483549 < 2147483549 := fun z => ⟨Int.emod_nonneg _ (by decide), Int.emod_lt_of_pos _ (by decide)⟩
  refine r_st (st_asg (d1 := dMix) (EvD.imp (ed_op op_I0 ed_v (ed_op (op_I (cmul_lt (sm100 (by decide) (by decide)) (sm100 h0 (by omega)))) ed_v (ed_var rfl))) (imp_exI (D := fun x => dV (.int x)) ⟨by omega, by omega⟩))) ?_
  refine r_st (st_forL (dl := (ns.map fun i => dV (.int i)).take 10) (dsj := fun _ => [some (dInts K ns), some (dV (.int tn)), some dMix, none, none]) (ed_sliceTo (ed_var rfl) ed_v) rfl fun j d hd => ?_) ?_
  · have : ∃ z : Int, d = dV (.int z) := by
      have := List.mem_of_getElem? hd
      obtain ⟨z, _, e⟩ := List.mem_map.mp (List.mem_of_mem_take this)
      exact ⟨z, e.symm⟩
    obtain ⟨z, rfl⟩ := this
    refine st_open (i := 2) rfl fun x hx => ?_
    have := mod1 z
    exact st_weak (st_asg (EvD.imp (ed_op (op_modP (by decide)) (ed_cb rc_int (ea_cons (ed_op op_I0 (ed_op op_I0 (ed_op (op_I (cmul_lt (sm100 hx.1 (by omega)) (sm100 (by decide) (by decide)))) (ed_var rfl) ed_v) (ed_op (op_modP (by decide)) (ed_cb rc_int (ea_cons (ed_var rfl) ea_nil)) ed_v)) ed_v) ea_nil)) ed_v) (mixI _))) (fgt_keep (fgt_keep (fgt_keep (fgt_drop (fgt_drop fgt_nil)))))
  · have ln : EvD _ _ _ := ed_cb (rc_lenL (K := K) (dl := ns.map fun i => dV (.int i))) (ea_cons (ed_var (ds := [some (dInts K ns), some (dV (.int tn)), some dMix, none, none]) (i := 0) rfl) ea_nil)
    rw [List.length_map] at ln
    refine r_st (st_asg (d1 := dEx (fun x : Int => 0 ≤ x) fun x => dV (.int x)) (ed_if (eb_test (ed_op op_I0 (ed_var rfl) ln)) (fun e => ?_) (fun e => ?_))) ?_
    · have e := of_decide_eq_true e
      have hat : atI (ns.map fun i => dV (.int i)) tn = some (dV (.int ns[tn.toNat])) := by
        unfold atI
        rw [List.length_map, ixN_nat h0 e]
        show (ns.map fun i => dV (.int i))[tn.toNat]? = _
        rw [List.getElem?_map, List.getElem?_eq_getElem (by omega)]
        rfl
      exact EvD.imp (ed_cb rc_abs (ea_cons (ed_cb rc_int (ea_cons (ed_op (op_ixLP hat) (ed_var rfl) (ed_var rfl)) ea_nil)) ea_nil)) (imp_exI (D := fun x => dV (.int x)) (by omega))
    · exact EvD.imp (ed_op op_I0 ed_v (ed_op (op_I (cmul_lt (sm100 (by decide) (by decide)) (sm100 h0 (by omega)))) ed_v (ed_var rfl))) (imp_exI (D := fun x => dV (.int x)) (by omega))
    · refine r_open (i := 4) rfl fun own hown => r_open (i := 2) rfl fun x hx => ?_
      have := mod2 own
      refine r_st (st_asg (EvD.imp (ed_op (op_modP (by decide)) (ed_cb rc_int (ea_cons (ed_op op_I0 (ed_op op_I0 (ed_op (op_I (cmul_lt (sm100 hx.1 (by omega)) (sm100 (by decide) (by decide)))) (ed_var rfl) ed_v) (ed_op (op_I (cmul_lt (sm100 this.1 (by omega)) (sm100 (by decide) (by decide)))) (ed_op (op_modP (by decide)) (ed_cb rc_int (ea_cons (ed_var rfl) ea_nil)) ed_v) ed_v)) ed_v) ea_nil)) ed_v) (mixI _))) ?_
      refine r_open (i := 2) rfl fun y hy => ?_
      intro D σ H s q
      refine retLst (ea_cons (d := dEx (fun x : Int => 0 ≤ x) fun x => dV (.int x)) (ed_if (eb_test (ed_op (op_I0 (g := fun i j => .bl (decide (j ≤ i)))) (ed_var (i := 4) rfl) (ed_op (op_I (i := 10) (j := 18) (C := CPow) (g := fun i j => .int (i ^ j.toNat)) ⟨by decide, by decide, by decide⟩) ed_v ed_v))) (fun _ => EvD.imp (ed_var (i := 4) rfl) (imp_exI (D := fun x => dV (.int x)) hown)) (fun _ => EvD.imp ed_v (imp_exI (D := fun x => dV (.int x)) (Int.le_refl 0)))) (ea_cons (ed_var (i := 2) rfl) (ea_cons ed_v ea_nil))) (by simp) s fun us H1 p e1 hus hp => ?_
      cases hus with
      | cons a1 r1 => cases r1 with
        | cons a2 r2 => cases r2 with
          | cons a3 r3 =>
            cases r3
            obtain ⟨z, hz, a1⟩ := a1
            cases a1
            cases a2
            cases a3
            exact q _ _ p rfl (e1.trans (same_new hp)) (none_back e1 hp) ⟨p, rfl, z, y, 0, upd_same, hz, hy.1, by omega, Int.le_refl 0, by omega⟩
end
end K65

/-! K65LP: promises kept while no repr is under way -/
namespace K65
open PySem PySem.Spec PyProof.Rows L2
/-- a def's promise, where no repr is under way -/
structure FnG (P : Program) (w : World) (K : PySem.W.Frag) (mg : Str → Option Value) (base : Heap) (k : Nat) (f : Addr) (fd : FuncData) (ps : List Str) (sp : Sp) : Prop where
  len : ∀ vs H Q E, sp vs H Q E → vs.length = ps.length
  run : ∀ (A : Around) (outer : List Env) (s : Shared) (H : Hp) (args : Args) (us : List Value) (vs : List V) (Q : VK) (E : XK), A.guards = some [] → Room k A → Env0 P w K mg base A outer s H → BindsTo s fd args (ps.zip us) → Vals vs us → sp vs H Q E →
    codeAny (model P w) A (.call (.ref f) args) (CR C8.CX0 outer P w H s Q E) s
section
variable {P : Program} {w : World} {mg : Str → Option Value} {base : Heap} {K : PySem.W.Frag}
theorem fnG_of {x : Str} {i k : Nat} {f : Addr} {fd : FuncData} {N ps : List Str} {sp : Sp} (D : C8.Def K mg x (topS i) f fd) (S : FnScope N ps (C8.fnScope (topS i))) (len : ∀ vs H Q E, sp vs H Q E → vs.length = ps.length)
    (hbody : ∀ (cdv : Value) (A : Around) (outer : List Env) (s : Shared) (H : Hp) (vs : List V) (Q : VK) (E : XK), (A.deeper (envOfC x (C8.fnScope (topS i)) s.heap.objs.size f cdv)).guards = some [] → Room k (A.deeper (envOfC x (C8.fnScope (topS i)) s.heap.objs.size f cdv)) → sp vs H Q E →
      ∃ t, PSs (cxOf C8.CX0 P w K mg base N x (C8.fnScope (topS i)) f cdv A outer s H E).nox (C8.fnBody (topS i)) t ∧ t { nx := fun _ H' => Q .non H', rt := Q } (L2.start N vs) H) : FnG P w K mg base (k + 1) f fd ps sp := by
  obtain ⟨oc, od, dV, kV, doc, pm, an, cdv, ct, osl, rfl, lk, hcd⟩ := D.fn.ex
  refine ⟨len, fun A outer s H args us vs Q E hg hr e0 hb r hsp => ?_⟩
  have same : ∀ {b : Addr} {o : Obj}, base.get? b = some o → s.heap.get? b = some o := fun e => (e0.bs _ _ e).1
  have KX : K.In s.heap := e0.mod.kin.keeps fun b o e => same e
  have lim : s.heap.NoLimit := e0.mod.nolimit.keeps fun b o e => same e
  have gd : (A.deeper (envOfC x (C8.fnScope (topS i)) s.heap.objs.size f cdv)).guards = some [] := hg
  have kinds : ∀ y ∈ ps.zip us, (C8.fnScope (topS i)).names.lookup y.1 = some .local ∨ ((C8.fnScope (topS i)).names.lookup y.1 = some .cell ∧ ((cellsFrom (s.heap.objs.size + 1) (C8.fnScope (topS i)).names []).lookup y.1).isSome = true) := fun y hy =>
    (S.par y.1 (List.of_mem_zip hy).1).elim .inl fun q => .inr ⟨q, PySem.W.cellsFrom_some _ _ _ (.inl q)⟩
  refine codeAny_call_function hr.depth (KX _ _ lk) rfl S.co S.gen rfl (PySem.W.codeRec_of KX hcd) (hb _ _ _ _ (wpAny_newFunctionEnv_cells S.kind kinds fun env he s1 y => ?_))
  subst he
  obtain ⟨t, ht, hq⟩ := hbody cdv A outer s H vs Q E gd (hr.deeper _) hsp
  have I : Inv (cxOf C8.CX0 P w K mg base N x (C8.fnScope (topS i)) f cdv A outer s H E) [] (L2.start N vs) H s1 := inv_start S hr.hd e0 (len _ _ _ _ hsp) r y
  refine ⟨lim.keeps y.toInCall.keep, codeAny_func (wpAny_mono (ht.nox.run [] s1 (L2.start N vs) H _ I hq) (fun fl s' hs => ?_) fun e s' hs => hs)⟩
  cases fl with
  | ret u =>
    obtain ⟨v, σ', H', J, rv, q⟩ := hs
    exact ⟨v, H', J.os, J.bare, J.base, J.hok, rv, q⟩
  | next =>
    obtain ⟨σ', H', J, q⟩ := hs
    exact ⟨.non, H', J.os, J.bare, J.base, J.hok, rfl, q⟩
  | brk =>
    obtain ⟨_, _, _, q⟩ := hs
    exact q.elim
  | cont =>
    obtain ⟨_, _, _, q⟩ := hs
    exact q.elim
/-- .. to be called by its name -/
structure CalG (P : Program) (w : World) (K : PySem.W.Frag) (mg : Str → Option Value) (base : Heap) (k : Nat) (x : Str) (sp : Sp) : Prop where
  ex : ∃ (f : Addr) (fd : FuncData) (ps : List Str), FnG P w K mg base k f fd ps sp ∧ mg x = some (.ref f) ∧ PySem.W.keepIn K (.ref f) = true ∧ Binds K fd ps []
theorem pe_cG {X : Cx} {k j : Nat} {x : Str} {sp : Sp} {p pos : Pos} {e : Expr} {es : List Expr} {t : TA} (c : CalG X.prog X.w X.K X.mg X.base k x sp) (hgd : X.A.guards = some []) (hr : Room j X.A) (hk : k ≤ j) (hg : Gl X x) (ha : PA X (e :: es) t)
    (hdb : (x == ("__debug__" : Str)) = false := by decide) (he : starEach (e :: es) X.env = (false, eval e X.env) :: starEach es X.env := by rfl) (hpl : (backTo pos (starEach es X.env)).any (·.1) = false := by rfl) :
    PE X (.Call (.Name x p) (e :: es) [] pos) (tCall sp [] C8.E0 t) := by
  obtain ⟨f, fd, ps, F, hm, kp, b⟩ := c.ex
  refine ⟨fun pins s σ H Q I h => ?_⟩
  refine wpAny_Call_Name_kw (ld_glob I hg hm ?_ hdb)
  refine PySem.W.callWith_K (h₀ := X.base) I.ok.mod.kin kp (thn (ha.run pos pins s σ H _ I h) fun us s1 ⟨vs, H1, I1, r, q⟩ => ⟨I1.kIn, ?_⟩) he hpl
  have q : sp (vs ++ []) H1 Q C8.E0 := q
  rw [List.append_nil] at q
  have hl : us.length = ps.length := r.length.symm.trans (F.len _ _ _ _ q)
  have hbu := b s1 us I1.kIn (by rw [List.append_nil]; exact hl)
  rw [List.append_nil] at hbu
  refine wpAny_call (codeAny_mono (F.run X.A X.stack s1 H1 ⟨us, []⟩ us vs Q C8.E0 hgd (hr.mono hk) I1.env0 hbu r q) fun rr s' hq => ?_)
  cases rr with
  | error e => exact hq.elim
  | ok fl =>
    cases fl with
    | ret u => exact I1.after hq
    | next => exact hq.elim
    | brk => exact hq.elim
    | cont => exact hq.elim
end
end K65

/-! K65LQ: what one turn asks; rules for its body -/
namespace K65
open PySem PySem.Spec PyProof.Rows L2
def FilOk (f : L) : Prop := f = 0 ∨ NearOk 4 f
def ChEnt (x x' : L) : Prop := x' = x ∨ ChgOk x x' ∨ NearOk 3 x'
structure TurnOk (a b f0 f1 c0 c1 o0 o1 : L) (s r0 r1 : Bool) (res res' : Option (L × L)) : Prop where
  wa : W 400 a
  wb : W 400 b
  fit0 : FitOk a b c0 o0 r0
  fit1 : FitOk a b c1 o1 r1
  sp : SplitOk a b (c0, c1) (o0, o1) res res'
  told : (toldOf res res').isSome = (r0 && r1)
  sh : ShOk (optPair (toldOf res res'))
  led : ∀ t0 t1, toldOf res res' = some (t0, t1) → LedOk t0 t1 a c0 c1 ∧ LedOk t0 t1 b o0 o1
  cr : CrOk a b
  uniq : s = true → even a * odd b - odd a * even b ≠ 0 → toldOf res res' = some (f0, f1)
  wf : W 400 f0 ∧ W 400 f1
/-- what is drawn in a turn -/
structure TurnIn (a b f0 f1 c0 c1 o0 o1 : L) (s : Bool) : Prop where
  two : TwoOk (a, b)
  ra : RowOk a
  rb : RowOk b
  h0 : FilOk f0
  h1 : FilOk f1
  e0 : ChEnt (chan f0 a) c0
  e1 : ChEnt (chan f1 a) c1
  e2 : ChEnt (chan f0 b) o0
  e3 : ChEnt (chan f1 b) o1
  eq : s = true → c0 = chan f0 a ∧ c1 = chan f1 a ∧ o0 = chan f0 b ∧ o1 = chan f1 b
/-- statements that draw from the well at W and change the lists at As; seen from H0 -/
def StY (W : Addr) (As : List Addr) (k k' : Nat) (ts : TS) (ds ds' : List (Option DP)) : Prop := ∀ (H0 : Hp) (B0 : Nat) (D : Ends) (σ : L2.St) (H : Hp), WellAt W B0 H0 → B0 + k' ≤ 1000000 → (∀ A ∈ As, H0 A = none) → WkR W k H0 H → Sl σ ds H →
  (∀ σ' H', WkR W k' H0 H' → Sl σ' ds' H' → D.nx σ' H') → ts D σ H
section
variable {P : Program} {w : World} {mg : Str → Option Value} {base : Heap} {K : PySem.W.Frag} {ds ds' ds1 ds2 : List (Option DP)} {te ta tb tl th : TE} {tas : TA} {tt tu : TT} {t u : TS} {a b d d1 d2 d3 d4 : DP} {dl : List DP} {W : Addr} {As : List Addr} {n m k k' k1 : Nat}
theorem sy_seq (hk : k1 ≤ k') (h : StY W As k k1 t ds ds1) (h2 : StY W As k1 k' u ds1 ds2) : StY W As k k' (tSeq t u) ds ds2 := fun H0 B0 D σ H w hB fr c s q =>
  h H0 B0 { D with nx := u D } σ H w (by omega) fr c s fun σ1 H1 c1 s1 => h2 H0 B0 D σ1 H1 w hB fr c1 s1 q
theorem sy_weak (h : StY W As k k' t ds ds1) (f : Fgt ds1 ds2) : StY W As k k' t ds ds2 := fun H0 B0 D σ H w hB fr c s q => h H0 B0 D σ H w hB fr c s fun σ1 H1 c1 s1 => q σ1 H1 c1 (s1.fgt f)
theorem sy_le (hk : k1 ≤ k') (h : StY W As k k1 t ds ds1) : StY W As k k' t ds ds1 := fun H0 B0 D σ H w hB fr c s q => h H0 B0 D σ H w (by omega) fr c s fun σ1 H1 c1 s1 => q σ1 H1 (c1.mono hk) s1
theorem sy_st (hk : k ≤ k') (h : StD t ds ds1) : StY W As k k' t ds ds1 := fun H0 B0 D σ H w hB fr c s q => h D σ H s fun σ1 H1 e1 s1 => q σ1 H1 ((c.trans (WkR.of_same e1)).mono (by omega)) s1
theorem sy_asg {i : Nat} (hk : k + n ≤ k') (h : EvW W n te ds d1) : StY W As k k' (tAsg te (gName i)) ds (ds.set i (some d1)) → True := fun _ => trivial
theorem sy_set {i : Nat} (st : StL W ds) (hk : k + n ≤ k') (h : EvW W n te ds d1) : StY W As k k' (tAsg te (gName i)) ds (ds.set i (some d1)) := fun H0 B0 D σ H w hB fr c s q =>
  h σ H (B0 + k) s (c.well B0 w) (by omega) _ fun v H1 c1 hv => q _ H1 ((c.trans c1).mono hk) ((s.wk st (c.well B0 w) c1).set i hv)
theorem sy_open {i : Nat} {α : Type} {S : α → Prop} {D : α → DP} (h : ds[i]? = some (some (dEx S D))) (kk : ∀ x, S x → StY W As k k' u (ds.set i (some (D x))) ds') : StY W As k k' u ds ds' := fun H0 B0 Dn σ H w hB fr c s q => by
  obtain ⟨v, h1, x, hx, h2⟩ := s.at' i _ h
  refine kk x hx H0 B0 Dn σ H w hB fr c ?_ q
  have := s.set i (v := v) h2
  have e : σ.set i (some v) = σ := by
    apply List.ext_getElem?
    intro j
    rw [List.getElem?_set]
    by_cases z : i = j
    · subst z
      rw [if_pos rfl, if_pos (List.getElem?_eq_some_iff.mp h1).1, h1]
    · rw [if_neg z]
  rw [e] at this
  exact this
/-- a, b = a list -/
theorem sy_unl {i j : Nat} (st : StL W ds) (hk : k + n ≤ k') (h : EvW W n te ds (dLst K [d1, d2])) : StY W As k k' (tAsg te (gUnl K 2 (gCons (gName i) (gCons (gName j) gNil)))) ds ((ds.set i (some d1)).set j (some d2)) := fun H0 B0 D σ H w hB fr c s q =>
  h σ H (B0 + k) s (c.well B0 w) (by omega) _ fun v H1 c1 hv => by
    obtain ⟨a, vs, rfl, hs, ha⟩ := hv
    cases ha with
    | @cons _ _ v _ _ h1 hr => cases hr with
      | @cons _ _ w' _ _ h2 hr2 =>
        cases hr2
        exact ⟨a, [v, w'], rfl, hs, rfl, v, [w'], rfl, w', [], rfl, rfl, q _ H1 ((c.trans c1).mono hk) (((s.wk st (c.well B0 w) c1).set i h1).set j h2)⟩
theorem sy_par {i j : Nat} (st : StL W ds) (hk : k + n ≤ k') (h : EvAW W n tas ds [d1, d2]) : StY W As k k' (tPar i j tas) ds ((ds.set i (some d1)).set j (some d2)) := fun H0 B0 D σ H w hB fr c s q =>
  h σ H (B0 + k) s (c.well B0 w) (by omega) _ fun vs H1 c1 hv => by
    cases hv with
    | @cons _ _ v1 _ _ h1 r1 => cases r1 with
      | @cons _ _ v2 _ _ h2 r2 =>
        cases r2
        exact ⟨v1, v2, rfl, q _ H1 ((c.trans c1).mono hk) (((s.wk st (c.well B0 w) c1).set i h1).set j h2)⟩
theorem sy_ite {b1 : Bool} (h : EvB tt ds b1) (h1 : b1 = true → StY W As k k' t ds ds') (h2 : b1 = false → StY W As k k' u ds ds') : StY W As k k' (tIfS tt t u) ds ds' := fun H0 B0 D σ H w hB fr c s q => h σ H s _ fun H1 e1 => by
  have c1 : WkR W k H0 H1 := c.trans (WkR.of_same e1)
  cases b1 with
  | true => exact h1 rfl H0 B0 D σ H1 w hB fr c1 (s.mono e1) q
  | false => exact h2 rfl H0 B0 D σ H1 w hB fr c1 (s.mono e1) q
/-- a new list, at a place that is known from then on -/
theorem sy_new {i : Nat} (hk : k ≤ k') (h : EvF te ds dl) (kk : ∀ S, StY W (S :: As) k k' u (ds.set i (some (dAt S dl))) ds') : StY W As k k' (tSeq (tAsg te (gName i)) u) ds ds' := fun H0 B0 D σ H w hB fr c s q =>
  h σ H s _ fun S vs H1 hS e1 hv ha => kk S H0 B0 D _ H1 w hB (fun A hA => by
    rcases List.mem_cons.mp hA with z | z
    · rw [z]
      cases e : H0 S with
      | none => rfl
      | some o =>
        exfalso
        have hSW : S ≠ W := fun y => by
          subst y
          obtain ⟨x, y, z, h, _⟩ := (c.well B0 w).ex
          rw [hS] at h
          cases h
        rw [c.rest _ _ hSW e] at hS
        cases hS
    · exact fr A z) (c.trans (WkR.of_same e1)) ((s.mono e1).set i ⟨rfl, vs, hv, ha⟩) q
theorem stW_lsX {d0 : DP} {dl : List DP} (hn : ∀ v H, d0.is v H → ∀ i, v ≠ .int i) (hs : ∀ d ∈ d0 :: dl, StW W d) : StW W (dLsX (d0 :: dl)) := fun v H H' n B w c q => by
  obtain ⟨a, vs, rfl, h2, h3⟩ := q
  obtain ⟨x, y, z, hw, _⟩ := w.ex
  refine ⟨a, vs, rfl, c.rest _ _ (fun e => ?_) h2, allIs_wk hs w c h3⟩
  subst e
  rw [hw] at h2
  cases h2
  cases h3 with
  | cons h4 _ => exact hn _ _ h4 x rfl
theorem stW_at {S : Addr} {d0 : DP} {dl : List DP} (hn : ∀ v H, d0.is v H → ∀ i, v ≠ .int i) (hs : ∀ d ∈ d0 :: dl, StW W d) : StW W (dAt S (d0 :: dl)) := fun v H H' n B w c q => by
  obtain ⟨rfl, vs, h2, h3⟩ := q
  obtain ⟨x, y, z, hw, _⟩ := w.ex
  refine ⟨rfl, vs, c.rest _ _ (fun e => ?_) h2, allIs_wk hs w c h3⟩
  subst e
  rw [hw] at h2
  cases h2
  cases h3 with
  | cons h4 _ => exact hn _ _ h4 x rfl
/-- two lots in a list of their own -/
def dL2 (K : PySem.W.Frag) (x y : L) : DP := dLsX [dLot K x, dLot K y]
theorem stW_L2 {x y : L} : StW W (dL2 K x y) := stW_lsX lot_noint fun d hd => by
  rcases List.mem_cons.mp hd with z | z
  · rw [z]
    exact stW_lot
  · rw [List.mem_singleton.mp z]
    exact stW_lot
theorem L2_noint {x y : L} : ∀ v H, (dL2 K x y).is v H → ∀ i, v ≠ .int i := fun v H h i e => by
  obtain ⟨a, vs, rfl, _⟩ := h
  cases e
/-- the four channels -/
def dS4 (K : PySem.W.Frag) (S : Addr) (c0 c1 o0 o1 : L) : DP := dAt S [dL2 K c0 c1, dL2 K o0 o1]
theorem stW_S4 {S : Addr} {c0 c1 o0 o1 : L} : StW W (dS4 K S c0 c1 o0 o1) := stW_at L2_noint fun d hd => by
  rcases List.mem_cons.mp hd with z | z
  · rw [z]
    exact stW_L2
  · rw [List.mem_singleton.mp z]
    exact stW_L2
/-- a list of lots is not the list of lists -/
theorem apart {S a : Addr} {H : Hp} {vs us : List V} {x y p q : L} {dr : List DP} (hS : H S = some (.lst vs)) (hv : AllIs (dL2 K x y :: dr) vs H) (ha : H a = some (.lst us)) (hu : AllIs [dLot K p, dLot K q] us H) : a ≠ S := fun e => by
  subst e
  rw [hS] at ha
  cases ha
  cases hv with
  | cons h1 _ => cases hu with
    | cons h2 _ =>
      obtain ⟨b, ws, e1, hb, _⟩ := h1
      obtain ⟨t, _, c, kvs, e2, hc, _⟩ := h2
      rw [e1] at e2
      cases e2
      rw [hb] at hc
      cases hc
theorem keep2 {S : Addr} {H H' : Hp} {vs vs' : List V} {x y : L} {dr : List DP} {p q : L} {v : V} (hS : H S = some (.lst vs)) (hv : AllIs (dL2 K x y :: dr) vs H) (c : ChA S H H') (h : (dL2 K p q).is v H) : (dL2 K p q).is v H' := by
  obtain ⟨a, us, e, ha, hu⟩ := h
  refine ⟨a, us, e, c.rest _ _ (apart hS hv ha hu) ha, hu.keep c.keep fun d hd => ?_⟩
  rcases List.mem_cons.mp hd with z | z
  · rw [z]
    exact stiff_lot
  · rw [List.mem_singleton.mp z]
    exact stiff_lot
theorem keepP {S : Addr} {H H' : Hp} {vs : List V} {x y : L} {dr : List DP} {p q : L} {v : V} (hS : H S = some (.lst vs)) (hv : AllIs (dL2 K x y :: dr) vs H) (c : ChA S H H') (h : (dLst K [dLot K p, dLot K q]).is v H) : (dLst K [dLot K p, dLot K q]).is v H' := by
  obtain ⟨a, us, e, ha, hu⟩ := h
  refine ⟨a, us, e, ?_, hu.keep c.keep fun d hd => ?_⟩
  · rcases ha with (h | ⟨o, h⟩) | h
    · exact .inl (.inl (c.rest _ _ (apart hS hv h hu) h))
    · refine .inl (.inr ⟨o, c.rest _ _ (fun z => ?_) h⟩)
      subst z
      rw [hS] at h
      cases h
    · exact .inr h
  · rcases List.mem_cons.mp hd with z | z
    · rw [z]
      exact stiff_lot
    · rw [List.mem_singleton.mp z]
      exact stiff_lot
end
end K65

/-! K65LR: more rules for one turn -/
namespace K65
open PySem PySem.Spec PyProof.Rows L2
section
variable {P : Program} {w : World} {mg : Str → Option Value} {base : Heap} {K : PySem.W.Frag} {ds ds' ds1 ds2 : List (Option DP)} {te te' ta tb tl th to ti : TE} {tas : TA} {tt tu : TT} {t u : TS} {a b d d0 d1 d2 d3 d4 e : DP} {dl : List DP} {W S : Addr} {As : List Addr} {n m k k' k1 i : Nat} {vs : List Nat}
theorem bw_for2 (hb : ∀ j : Nat, j < 2 → StY W [] 0 n t (ds.set i (some (dV (.int (j : Int))))) ds) (k : BdW W m u ds d) : BdW W (n + n + m) (tSeq (tFor (iRng1 (tCons (tC (.int 2)) tNil)) (gName i) t) u) ds d := fun D σ H B s w hB q => by
  refine ⟨2, rfl, by decide, by decide, ?_⟩
  refine for_it (walk_range (lo := 0) (n := 2)) (fun j σ2 H2 => WkR W (n * j) H H2 ∧ Sl σ2 ds H2) ⟨WkR.of_same (Same.refl H), s⟩ (fun _ _ _ _ _ => trivial) (fun j x σ2 H2 H3 hj hp hy => ?_) (fun σ2 H2 hp => ?_)
  · obtain ⟨rfl, rfl⟩ := hy
    have hj1 : j = 0 ∨ j = 1 := by omega
    refine hb j hj H3 (B + n * j) _ _ _ (hp.1.well B w) (by rcases hj1 with e | e <;> subst e <;> omega) (fun _ h => nomatch h) (WkR.of_same (Same.refl _)) (hp.2.set i (show V.int (0 + (j : Int)) = V.int (j : Int) by rw [Int.zero_add])) fun σ' H' c s' => ⟨(hp.1.trans c).mono (by rw [Nat.mul_succ]; exact Nat.le_refl _), s'⟩
  · exact k D σ2 H2 (B + n * 2) hp.2 (hp.1.well B w) (by omega) fun v H' c hv => q v H' ((hp.1.trans c).mono (by omega)) hv
/-- [e for x in (a, b)], e draws -/
theorem ew_lcT2 (st : StL W ds) (sd0 : StW W d0) (sd1 : StW W d1) (h : EvD te ds (dTup K [d0, d1])) (hi' : i ∈ vs) (he : ∀ (j : Nat) (d : DP), [d0, d1][j]? = some d → EvW W n te' ((wipeD ds vs).set i (some d)) e) (hs : e.Stiff) : EvW W (n + n) (tLc (iTup K te) (gName i) tYes te' vs) ds (dLst K [e, e]) := fun σ H B s w hB Q q =>
  h σ H s _ fun v H1 e1 hv => by
    obtain ⟨a, us, rfl, hS, ha⟩ := hv
    refine ⟨a, rfl, ⟨us, hS⟩, fun D hD => ?_⟩
    have hl : us.length = 2 := ha.length
    have w1 : WellAt W B H1 := w.same e1
    have hDW : D ≠ W := fun z => by
      subst z
      obtain ⟨x, y, z, h, _⟩ := w1.ex
      rw [hD] at h
      cases h
    refine lc_it (walk_tup (K := K) (a := a) (xs := us)) (fun k H2 => ∃ acc, H2 D = some (.lst acc) ∧ acc.length = k ∧ AllIs (List.replicate k e) acc H2 ∧ WkR W (n * k) H1 H2)
      ⟨[], upd_same, rfl, .nil, ⟨fun b o ne h => ?_, fun B' h => ?_⟩⟩ (fun j H2 _ hp => ?_) (fun j x H2 H3 hj hp hy => ?_) (fun H2 hp => ?_)
    · rw [upd_ne (ne_of_none h hD)]
      exact h
    · obtain ⟨x, y, z, h1, h2⟩ := h.ex
      exact ⟨x, y, z, by rw [upd_ne hDW.symm]; exact h1, h2.1, h2.2.1, h2.2.2.1, h2.2.2.2.1, by have := h2.2.2.2.2; omega⟩
    · obtain ⟨_, _, _, _, c⟩ := hp
      exact keep_t (c.keep w1) hS
    · obtain ⟨acc, hDa, hla, hac, c⟩ := hp
      obtain ⟨rfl, hx⟩ := hy
      have ej : [d0, d1][j]? = some [d0, d1][j] := List.getElem?_eq_getElem (by simp; omega)
      have ha2 := allIs_wk (fun d hd => by
        rcases List.mem_cons.mp hd with z | z
        · rw [z]; exact sd0
        · rw [List.mem_singleton.mp z]; exact sd1) w1 c ha
      obtain ⟨w0, h1, h2⟩ := ha2.get ej
      rw [hx] at h1
      have h1 := Option.some.inj h1
      subst h1
      have slj := (((s.mono e1).wk st w1 c).wipe vs).set i h2
      have hj1 : j = 0 ∨ j = 1 := by omega
      refine ⟨wipe_idem_set hi', eb_yes _ _ slj _ fun H3 e3 => ?_⟩
      rw [if_pos rfl]
      have w3 := (c.well B w1).same e3
      refine he j _ ej _ _ (B + n * j) (slj.mono e3) w3 (by rcases hj1 with e | e <;> subst e <;> omega) _ fun v4 H4 c4 hv4 => ?_
      have hD4 : H4 D = some (.lst acc) := c4.rest _ _ hDW (e3 _ _ hDa)
      have ac4 : AllIs (List.replicate j e) acc H4 := allIs_wk (fun d hd => by
        rw [List.eq_of_mem_replicate hd]
        exact stW_stiff hs) w3 c4 (hac.mono e3)
      refine ⟨acc, hD4, small1000 (by omega), acc ++ [v4], upd_same, by simp [hla], ?_, ⟨fun b o ne h => ?_, fun B' h => ?_⟩⟩
      · rw [List.replicate_succ']
        exact (ac4.snoc hv4).keep (Keep.upd hD4) fun d hd => by
          rcases List.mem_append.mp hd with z | z
          · rw [List.eq_of_mem_replicate z]
            exact hs
          · rw [List.mem_singleton.mp z]
            exact hs
      · rw [upd_ne (ne_of_none h hD)]
        exact c4.rest _ _ ne (e3 _ _ (c.rest _ _ ne h))
      · have := c4.well _ ((c.well _ h).same e3)
        obtain ⟨x, y, z, h1, h2⟩ := this.ex
        exact ⟨x, y, z, by rw [upd_ne hDW.symm]; exact h1, h2.1, h2.2.1, h2.2.2.1, h2.2.2.2.1, by have := h2.2.2.2.2; rw [Nat.mul_succ]; omega⟩
    · obtain ⟨acc, hDa, hla, hac, c⟩ := hp
      rw [hl] at hac c
      exact q (.ref D) H2 (((WkR.of_same e1).trans c).mono (by omega)) ⟨D, acc, rfl, SqL.of hDa, hac⟩
/-- [e for x in a list] -/
theorem ed_lcLX {f : Nat → DP} (h : EvD te ds (dLst K dl)) (hn : dl.length ≤ 1000) (hi' : i ∈ vs)
    (he : ∀ j d, dl[j]? = some d → EvD te' ((wipeD ds vs).set i (some d)) (f j))
    (hs : ∀ j d, dl[j]? = some d → (f j).Stiff) : EvD (tLc (iList K te) (gName i) tYes te' vs) ds (dLsX ((List.range dl.length).map f)) := fun σ H s Q q =>
  h σ H s _ fun v H1 e1 hv => by
    obtain ⟨a, us, rfl, hS, ha⟩ := hv
    refine ⟨a, rfl, ⟨us, hS⟩, fun D hD => ?_⟩
    have hl : us.length = dl.length := ha.length
    refine lc_gen (walk_list (K := K) (a := a) (xs := us)) (dsj := fun j => (wipeD ds vs).set i (dl[j]?)) (f := f) (p := fun _ => true) hD (by omega) (fun H2 s2 => s2.seq hS) (fun j x H2 H3 hj s2 y => ?_) (fun j hj => eb_yes) (fun j hj hp => ?_) (fun j hj hp => ?_) (fun H2 acc s2 hDa hA => ?_)
    · obtain ⟨rfl, hx⟩ := y
      have ej : dl[j]? = some dl[j] := List.getElem?_eq_getElem (by omega)
      refine ⟨Same.refl _, fun Kk hk => hk _ (wipe_idem_set hi') ?_⟩
      rw [ej]
      refine (((s.mono e1).mono s2).wipe vs).set i ?_
      obtain ⟨w, h1, h2⟩ := (ha.mono s2).get ej
      rw [hx] at h1
      rw [Option.some.inj h1]
      exact h2
    · have ej : dl[j]? = some dl[j] := List.getElem?_eq_getElem (by omega)
      rw [ej]
      exact he j _ ej
    · have ej : dl[j]? = some dl[j] := List.getElem?_eq_getElem (by omega)
      exact hs j _ ej
    · rw [all_true, hl] at hA
      exact q (.ref D) H2 (e1.trans s2) ⟨D, acc, rfl, hDa, hA⟩
/-- what the change of one list of channels leaves -/
def KpS (K : PySem.W.Frag) (S : Addr) (d : DP) : Prop := ∀ (H H' : Hp) (vs : List V) (x y : L) (dr : List DP) (v : V), H S = some (.lst vs) → AllIs (dL2 K x y :: dr) vs H → ChA S H H' → d.is v H → d.is v H'
theorem kpS_stiff (h : d.Stiff) : KpS K S d := fun H H' vs x y dr v _ _ c q => h v H H' c.keep q
theorem kpS_pair {p q : L} : KpS K S (dLst K [dLot K p, dLot K q]) := fun H H' vs x y dr v h1 h2 c q => keepP h1 h2 c q
def KpL (K : PySem.W.Frag) (S : Addr) (i : Nat) (ds : List (Option DP)) : Prop := ∀ (j : Nat) (d : DP), j ≠ i → ds[j]? = some (some d) → KpS K S d
/-- some[at] = a new pair of channels -/
theorem sy_put {c0 c1 o0 o1 x y : L} {at' : Int} (hS : S ∈ As) (hk : k ≤ k') (h5 : ds[5]? = some (some (dS4 K S c0 c1 o0 o1))) (h7 : ds[7]? = some (some (dV (.int at')))) (hat : at' = 0 ∨ at' = 1) (h : EvD te ds (dL2 K x y)) (hkp : KpL K S 5 ds) :
    StY W As k k' (tAsg te (gSub (tVar 5) (tVar 7) rSetL)) ds (ds.set 5 (some (if at' = 0 then dS4 K S x y o0 o1 else dS4 K S c0 c1 x y))) := fun H0 B0 D σ H w hB fr c s q =>
  h σ H s _ fun v H1 e1 hv => by
    obtain ⟨z, hz, hz2⟩ := (s.mono e1).at' 5 _ h5
    obtain ⟨z7, hz7, hz72⟩ := (s.mono e1).at' 7 _ h7
    obtain ⟨rfl, us, hu, ha⟩ := hz2
    refine ⟨_, hz, _, hz7, ?_⟩
    cases hz72
    have cc := c.trans (WkR.of_same e1)
    have hSW : S ≠ W := fun y => by
      subst y
      obtain ⟨x, y, z, h, _⟩ := w.ex
      rw [fr _ hS] at h
      cases h
    have hl : us.length = 2 := ha.length
    have fin : ∀ (j : Nat) (p0 p1 q0 q1 : L), ixN 2 at' = some j → (∀ H', ChA S H1 H' → AllIs [dL2 K p0 p1, dL2 K q0 q1] (us.set j v) H') → (if at' = 0 then dS4 K S x y o0 o1 else dS4 K S c0 c1 x y) = dS4 K S p0 p1 q0 q1 →
        rSetL (.ref S) (.int at') v H1 fun H3 => D.nx σ H3 := fun j p0 p1 q0 q1 hj hal he => by
      have ch : ChA S H1 (upd H1 S (.lst (us.set j v))) := ⟨fun b o ne h => by rw [upd_ne ne]; exact h, us, _, hu, upd_same⟩
      refine ⟨S, us, at', j, rfl, rfl, hu, by rw [hl]; exact hj, q σ _ ⟨fun b o ne h => ?_, fun B h => ?_⟩ ⟨by rw [List.length_set]; exact s.len, fun i' d' hd' => ?_⟩⟩
      · have : b ≠ S := fun y => by
          subst y
          rw [fr _ hS] at h
          cases h
        rw [upd_ne this]
        exact (cc.mono (m := k') (by omega)).rest b o ne h
      · have h := (cc.mono (m := k') (by omega)).well B h
        obtain ⟨x, y, z, h1, h2⟩ := h.ex
        exact ⟨x, y, z, by rw [upd_ne hSW.symm]; exact h1, h2⟩
      · rw [List.getElem?_set] at hd'
        by_cases e : 5 = i'
        · subst e
          rw [if_pos rfl] at hd'
          split at hd'
          · have hd' := Option.some.inj (Option.some.inj hd')
            subst hd'
            rw [he]
            exact ⟨_, hz, rfl, _, upd_same, hal _ ch⟩
          · cases hd'
        · rw [if_neg e] at hd'
          obtain ⟨x', x1, x2⟩ := (s.mono e1).at' i' d' hd'
          exact ⟨x', x1, hkp i' d' (fun z => e z.symm) hd' _ _ _ _ _ _ _ hu ha ch x2⟩
    cases ha with
    | @cons _ _ v0 _ _ h0 r0 => cases r0 with
      | @cons _ _ v1 _ _ h1 r1 =>
        cases r1
        have hall : AllIs [dL2 K c0 c1, dL2 K o0 o1] [v0, v1] H1 := .cons h0 (.cons h1 .nil)
        rcases hat with e | e <;> subst e
        · exact fin 0 x y o0 o1 rfl (fun H' ch => .cons (keep2 (vs' := []) hu hall ch hv) (.cons (keep2 (vs' := []) hu hall ch h1) .nil)) (if_pos rfl)
        · exact fin 1 c0 c1 x y rfl (fun H' ch => .cons (keep2 (vs' := []) hu hall ch h0) (.cons (keep2 (vs' := []) hu hall ch hv) .nil)) (if_neg (by decide))
/-- a, b, c, d = a tuple -/
theorem st_tup4 {i j l o : Nat} (h : EvD te ds (dTup K [d1, d2, d3, d4])) : StD (tAsg te (gTup K 4 (gCons (gName i) (gCons (gName j) (gCons (gName l) (gCons (gName o) gNil)))))) ds ((((ds.set i (some d1)).set j (some d2)).set l (some d3)).set o (some d4)) := fun D σ H s q =>
  h σ H s _ fun v H1 e1 hv => by
    obtain ⟨a, vs, rfl, hs, ha⟩ := hv
    cases ha with
    | @cons _ _ v _ _ h1 hr => cases hr with
      | @cons _ _ w' _ _ h2 hr2 => cases hr2 with
        | @cons _ _ w3 _ _ h3 hr3 => cases hr3 with
          | @cons _ _ w4 _ _ h4 hr4 =>
            cases hr4
            exact ⟨a, _, rfl, hs, rfl, v, _, rfl, w', _, rfl, w3, _, rfl, w4, _, rfl, rfl, q _ H1 e1 (((((s.mono e1).set i h1).set j h2).set l h3).set o h4)⟩
/-- the keywords in the parameters' order, nothing else given -/
def gKw {α : Type} (us ws : List α) : List α := match us with
  | [] => ws
  | _ :: _ => []
theorem ed_callK {sp : Sp} {E : XK} {tk : TA} (hs : CallP sp dl d) (h : EvA tk ds dl) : EvD (tCallK sp gKw E tNil tk) ds d := fun σ H s Q q =>
  h σ H s _ fun vs H1 e1 hvs => hs vs H1 hvs Q E fun v H2 e2 hv => q v H2 (e1.trans e2) hv
/-- splitter_read, to be called by keywords -/
structure SplK (K : PySem.W.Frag) (mg : Str → Option Value) : Prop where
  ex : ∃ f fd, C8.Def K mg "splitter_read" (topS 56) f fd ∧ KBinds K fd ["row", "channels", "other", "others"] ["row", "channels", "other", "others"] gKw gKw
theorem tm_fil {f a : L} (h : FilOk f) (ha : RowOk a) (ht : NearOk 4 f → TmOk f a) (h0 : TmOk 0 a) : TmOk f a := by
  rcases h with rfl | h
  · exact h0
  · exact ht h
/-- slots, one by one -/
inductive ImpL : List (Option DP) → List (Option DP) → Prop
  | nil : ImpL [] []
  | none {o : Option DP} {l l' : List (Option DP)} : ImpL l l' → ImpL (o :: l) (none :: l')
  | some {d d' : DP} {l l' : List (Option DP)} : DP.imp d d' → ImpL l l' → ImpL (some d :: l) (some d' :: l')
theorem impL_ok {l l' : List (Option DP)} (h : ImpL l l') : l'.length = l.length ∧ ∀ (i : Nat) (d : DP), l'[i]? = some (some d) → ∃ d0, l[i]? = some (some d0) ∧ DP.imp d0 d := by
  induction h with
  | nil => exact ⟨rfl, fun i d h => by simp at h⟩
  | none _ ih =>
    refine ⟨by simp [ih.1], fun i d h => ?_⟩
    cases i with
    | zero => cases h
    | succ i => exact ih.2 i d (by simpa using h)
  | some hi _ ih =>
    refine ⟨by simp [ih.1], fun i d h => ?_⟩
    cases i with
    | zero =>
      have h := Option.some.inj (Option.some.inj h)
      subst h
      exact ⟨_, rfl, hi⟩
    | succ i => exact ih.2 i d (by simpa using h)
theorem sy_to (h : StY W As k k' t ds ds1) (f : ImpL ds1 ds2) : StY W As k k' t ds ds2 := fun H0 B0 D σ H w hB fr c s q => h H0 B0 D σ H w hB fr c s fun σ1 H1 c1 s1 => q σ1 H1 c1 (s1.imp (impL_ok f).1 (impL_ok f).2)
theorem sy_next (hk : k ≤ k') : StY W As k k' tNext ds ds := fun H0 B0 D σ H w hB fr c s q => q σ H (c.mono hk) s
theorem sy_setX {i : Nat} {α : Type} {S : α → Prop} {D : α → DP} (st : StL W ds) (hk : k + n ≤ k1) (hk1 : k1 ≤ k') (h : EvW W n te ds (dEx S D)) (kk : ∀ x, S x → StY W As k1 k' u (ds.set i (some (D x))) ds') : StY W As k k' (tSeq (tAsg te (gName i)) u) ds ds' := fun H0 B0 Dn σ H w hB fr c s q =>
  h σ H (B0 + k) s (c.well B0 w) (by omega) _ fun v H1 c1 ⟨x, hx, hv⟩ => kk x hx H0 B0 Dn _ H1 w hB fr ((c.trans c1).mono hk) ((s.wk st (c.well B0 w) c1).set i hv) q
theorem sy_unlX {i j : Nat} {α : Type} {S : α → Prop} {d1 d2 : α → DP} (st : StL W ds) (hk : k + n ≤ k1) (hk1 : k1 ≤ k') (h : EvW W n te ds (dEx S fun x => dLst K [d1 x, d2 x])) (kk : ∀ x, S x → StY W As k1 k' u ((ds.set i (some (d1 x))).set j (some (d2 x))) ds') :
    StY W As k k' (tSeq (tAsg te (gUnl K 2 (gCons (gName i) (gCons (gName j) gNil)))) u) ds ds' := fun H0 B0 D σ H w hB fr c s q =>
  h σ H (B0 + k) s (c.well B0 w) (by omega) _ fun v H1 c1 ⟨x, hx, hv⟩ => by
    obtain ⟨a, vs, rfl, hs, ha⟩ := hv
    cases ha with
    | @cons _ _ v _ _ h1 hr => cases hr with
      | @cons _ _ w' _ _ h2 hr2 =>
        cases hr2
        exact ⟨a, [v, w'], rfl, hs, rfl, v, [w'], rfl, w', [], rfl, rfl, kk x hx H0 B0 D _ H1 w hB fr ((c.trans c1).mono hk) (((s.wk st (c.well B0 w) c1).set i h1).set j h2) q⟩
theorem ed_notNT {o : Option (L × L)} (h : EvD te ds (dD K (optPair o))) : EvD (tOp (fun x y H Q => y = .non ∧ Q (.bl (!decide (x = .non))) H) te (tC .non)) ds (dV (.bl o.isSome)) := fun σ H s Q q =>
  h σ H s _ fun v H1 e1 hv => ⟨rfl, q _ H1 e1 (by
    cases o with
    | none =>
      cases hv
      rfl
    | some p =>
      have hv : Dp K H1 v (pairD p.1 p.2) := hv
      cases hv
      rfl)⟩
theorem stL_nones : ∀ n : Nat, StL W (List.replicate n none)
  | 0 => stL_nil
  | n + 1 => stL_none (stL_nones n)
end
end K65

/-! K65LS: one well's two turns -/
namespace K65
open PySem PySem.Spec PyProof.Rows L2
/-- what the numbers owe -/
structure MathOk : Prop where
  tm : ∀ {f a : L}, FilOk f → RowOk a → TmOk f a
  ent : ∀ {f a : L}, FilOk f → RowOk a → SmL (chan f a) ∧ W 100 (chan f a)
  turn : ∀ {a b f0 f1 c0 c1 o0 o1 : L} {s : Bool}, TurnIn a b f0 f1 c0 c1 o0 o1 s → ∃ r0 r1 res res', TurnOk a b f0 f1 c0 c1 o0 o1 s r0 r1 res res'
section
variable {P : Program} {w : World} {mg : Str → Option Value} {base : Heap} {K : PySem.W.Frag}
theorem fn_okF {α : Type} {pre : α → Prop} {dl : α → List DP} {d : α → DP} {x : Str} {i : Nat} {f : Addr} {fd : FuncData} {ps N : List Str} {k : Nat} (D : C8.Def K mg x (topS i) f fd) (S : FnScope N ps (C8.fnScope (topS i))) (hl : ∀ a, (dl a).length = ps.length)
    (body : FnScope N ps (C8.fnScope (topS i)) → ∀ (cdv : Value) (A : Around) (outer : List Env) (s : Shared) (H : Hp) (E : XK) (f : Addr), Room k (A.deeper (envOfC x (C8.fnScope (topS i)) s.heap.objs.size f cdv)) →
      ∃ t, PSs (cxOf C8.CX0 P w K mg base N x (C8.fnScope (topS i)) f cdv A outer s H E).nox (C8.fnBody (topS i)) t ∧ ∀ a, pre a → BdD t (slots N (dl a)) (d a)) : FnOk P w K mg base C8.CX0 (k + 1) f fd ps (spF pre dl d) :=
  C8.fn0 D.fn S (fun vs H Q E h => by
    obtain ⟨a, _, h1, _⟩ := h
    rw [h1.length, hl]) fun cdv A outer s H vs Q E hr h => by
    obtain ⟨t, h1, h2⟩ := body S cdv A outer s H E f hr
    refine ⟨t, h1, ?_⟩
    obtain ⟨a, hp, ha, q⟩ := h
    exact h2 a hp { nx := fun _ H' => Q .non H', rt := Q } _ H (sl_start ha) q
variable (F : Facts K mg)
include F
theorem fn_splitter_read {f0 : Addr} {fd : FuncData} (D : C8.Def K mg "splitter_read" (topS 56) f0 fd) : FnOk P w K mg base C8.CX0 10 f0 fd ["row", "channels", "other", "others"] (spF (fun q : L × (L × L) × L × (L × L) × Option (L × L) × Option (L × L) => SplitOk q.1 q.2.2.1 q.2.1 q.2.2.2.1 q.2.2.2.2.1 q.2.2.2.2.2) (fun q => [dD K (pD q.1), dD K (pairD q.2.1.1 q.2.1.2), dD K (pD q.2.2.1), dD K (pairD q.2.2.2.1.1 q.2.2.2.1.2)]) (fun q => dD K (optPair (toldOf q.2.2.2.2.1 q.2.2.2.2.2)))) := by
  have ccheck_row := c_check_row (P := P) (w := w) (base := base) F
  have ccheck_channels := c_check_channels (P := P) (w := w) (base := base) F
  have cread_by := c_read_by (P := P) (w := w) (base := base) F
  refine fn_okF D (N := ["row", "channels", "other", "others"]) (C8.fnScope_by (by decide +kernel)) (fun _ => rfl) fun sc cdv A outer s H E f hr => ⟨_, (pss_cons (ps_expr (C8.pe_c ccheck_row hr (by decide) (by rfl) (pa_cons (pv 0) pa_nil))) (pss_cons (ps_expr (C8.pe_c ccheck_channels hr (by decide) (by rfl) (pa_cons (pv 1) pa_nil))) (pss_cons (ps_expr (C8.pe_c ccheck_row hr (by decide) (by rfl) (pa_cons (pv 2) pa_nil))) (pss_cons (ps_expr (C8.pe_c ccheck_channels hr (by decide) (by rfl) (pa_cons (pv 3) pa_nil))) (pss_one (ps_ret (C8.pe_c cread_by hr (by decide) (by rfl) (pa_cons (pv 0) (pa_cons (pv 1) (pa_cons (pv 2) (pa_cons (pv 3) pa_nil))))))))))), fun q hq => ?_⟩
  obtain ⟨r, ch, r', ch', res, res'⟩ := q
  replace hq : SplitOk r r' ch ch' res res' := hq
  exact b_drop (ed_call (callP r hq.rd.wr) (ea_cons (ed_var rfl) ea_nil)) (b_drop (ed_call (callP ch hq.w1) (ea_cons (ed_var rfl) ea_nil)) (b_drop (ed_call (callP r' hq.rd.wr') (ea_cons (ed_var rfl) ea_nil)) (b_drop (ed_call (callP ch' hq.w2) (ea_cons (ed_var rfl) ea_nil)) (b_ret (ed_call (callP (r, ch, r', ch', res, res') hq.rd) (ea_cons (ed_var rfl) (ea_cons (ed_var rfl) (ea_cons (ed_var rfl) (ea_cons (ed_var rfl) ea_nil)))))))))
theorem c__law_right (M : MathOk) (SK : SplK K mg) : CalG P w K mg base 11 "_law_right" (spW 1000 (fun _ : Unit => True) (fun _ _ => []) (fun _ => dV (.bl true))) := by
  have mrange := F.m_range
  have c_law_two := c__law_two (P := P) (w := w) (base := base) F
  have csplitter_read := c_splitter_read (P := P) (w := w) (base := base) F
  have c_law_take := c__law_take (P := P) (w := w) (base := base) F
  have c_law_line := c__law_line (P := P) (w := w) (base := base) F
  have c_law_lines := c__law_lines (P := P) (w := w) (base := base) F
  have c_law_near := c__law_near (P := P) (w := w) (base := base) F
  have c_law_channel := c__law_channel (P := P) (w := w) (base := base) F
  have c_law_changed := c__law_changed (P := P) (w := w) (base := base) F
  have mrepr := F.m_repr
  have c_law_crossed := c__law_crossed (P := P) (w := w) (base := base) F
  have c_law_is_led := c__law_is_led (P := P) (w := w) (base := base) F
  have c_law_fits_one := c__law_fits_one (P := P) (w := w) (base := base) F
  obtain ⟨fS, fdS, DS, bKW⟩ := SK.ex
  have fKW := fn_splitter_read (P := P) (w := w) (base := base) F DS
  have mKW := DS.mgf
  have kKW := DS.kp
  obtain ⟨f0, fd, D, bb⟩ := F.f__law_right.ex
  have sc : FnScope ["_law_well_here", "_law_turn", "_law_one", "_law_two_here", "_law_pair", "_law_some", "_law_is_same", "_law_at", "_law_index", "_law_changed_here", "_law_due", "_law_line_here", "_law_near_here", "_law_both", "_law_far", "_law_told", "_law_again", "_law_k", "_law_lot_here", "_law_each"] ["_law_well_here"] (C8.fnScope (topS 96)) := C8.fnScope_by (by decide +kernel)
  refine ⟨f0, fd, _, fnG_of D sc (fun vs H Q E h => ?_) (fun cdv A outer s H vs Q E hgd hr h => ⟨_, (pss_cons (ps_for PassesOwn.never rfl (pi_range1 (by rfl) mrange (pa_cons pe_int pa_nil)) (pg_name (i := 1) sc.nd rfl (Or.inl rfl)) (pss_cons (ps_asg (C8.pe_c c_law_two hr (by decide) (by rfl) (pa_cons (pv 0) pa_nil)) (pg_unl rfl (pgs_cons (pg_name (i := 2) sc.nd rfl (Or.inr rfl)) (pgs_cons (pg_name (i := 3) sc.nd rfl (Or.inr rfl)) pgs_nil)))) (pss_cons (ps_set (i := 4) sc.nd rfl (Or.inr rfl) (pe_lc (own := [("_law_k", 17)]) rfl sc.nd (pi_tup (pe_tup (pa_cons pe_int (pa_cons pe_int pa_nil)))) (blkOk_by (by change blkC ["_law_well_here", "_law_turn", "_law_one", "_law_two_here", "_law_pair", "_law_some", "_law_is_same", "_law_at", "_law_index", "_law_changed_here", "_law_due", "_law_line_here", "_law_near_here", "_law_both", "_law_far", "_law_told", "_law_again", "_law_k", "_law_lot_here", "_law_each"] (C8.fnScope (topS 96)) _ _ = true; decide +kernel)) (fun _ _ _ _ _ => (pg_name (i := 17) sc.nd rfl (by first | exact Or.inl rfl | exact Or.inr rfl))) (fun _ _ _ _ _ => pts_nil) (fun _ _ _ _ _ => (pe_ifExp (pt_cmpR op_eq (C8.pe_c c_law_take hr (by decide) (by rfl) (pa_cons (pv 0) (pa_cons pe_int pa_nil))) pe_int (nomark _)) pe_dnewK (C8.pe_c c_law_near hr (by decide) (by rfl) (pa_cons (pv 0) (pa_cons pe_int pa_nil))))))) (pss_cons (ps_set (i := 5) sc.nd rfl (Or.inr rfl) (pe_lc (own := [("_law_lot_here", 18)]) rfl sc.nd (pi_tup (pe_tup (pa_cons (pv 2) (pa_cons (pv 3) pa_nil)))) (blkOk_by (by change blkC ["_law_well_here", "_law_turn", "_law_one", "_law_two_here", "_law_pair", "_law_some", "_law_is_same", "_law_at", "_law_index", "_law_changed_here", "_law_due", "_law_line_here", "_law_near_here", "_law_both", "_law_far", "_law_told", "_law_again", "_law_k", "_law_lot_here", "_law_each"] (C8.fnScope (topS 96)) _ _ = true; decide +kernel)) (fun _ _ _ _ _ => (pg_name (i := 18) sc.nd rfl (by first | exact Or.inl rfl | exact Or.inr rfl))) (fun _ _ _ _ _ => pts_nil) (fun _ _ _ _ _ => (pe_lc (wi := iList K (tVar 4)) (own := [("_law_each", 19)]) rfl sc.nd (pi_list (pv 4)) (blkOk_by (by rfl)) (fun _ _ _ _ _ => (pg_name (i := 19) sc.nd rfl (by first | exact Or.inl rfl | exact Or.inr rfl))) (fun _ _ _ _ _ => pts_nil) (fun _ _ _ _ _ => (C8.pe_c c_law_channel hr (by decide) (by rfl) (pa_cons (pv 19) (pa_cons (pv 18) pa_nil)))))))) (pss_cons (ps_set (i := 6) sc.nd rfl (Or.inl rfl) (pe_cmpR op_eq (C8.pe_c c_law_take hr (by decide) (by rfl) (pa_cons (pv 0) (pa_cons pe_int pa_nil))) pe_int (nomark _))) (pss_cons (ps_if (pt_not (pt_val (pv 6))) (pss_cons (ps_par (i := 7) (j := 8) rfl sc.nd rfl rfl (by decide) rfl rfl (pa_cons (C8.pe_c c_law_take hr (by decide) (by rfl) (pa_cons (pv 0) (pa_cons pe_int pa_nil))) (pa_cons (C8.pe_c c_law_take hr (by decide) (by rfl) (pa_cons (pv 0) (pa_cons pe_int pa_nil))) pa_nil)) (by rfl)) (pss_cons (ps_set (i := 9) sc.nd rfl (Or.inl rfl) (pe_ifExp (pt_cmpR op_gt (C8.pe_c c_law_take hr (by decide) (by rfl) (pa_cons (pv 0) (pa_cons pe_int pa_nil))) pe_int (nomark _)) (C8.pe_c c_law_changed hr (by decide) (by rfl) (pa_cons (pv 0) (pa_cons (pe_ix (r := rIxL K) ix_list (pe_ix (r := rIxL K) ix_list (pv 5) (pv 7) (fun _ _ => rfl)) (pv 8) (fun _ _ => rfl)) pa_nil))) (C8.pe_c c_law_near hr (by decide) (by rfl) (pa_cons (pv 0) (pa_cons pe_int pa_nil))))) (pss_one (ps_asg (pe_ifExp (pt_cmpR op_eq (pv 8) pe_int (nomark _)) (pe_lst (pa_cons (pv 9) (pa_cons (pe_ix (r := rIxL K) ix_list (pe_ix (r := rIxL K) ix_list (pv 5) (pv 7) (fun _ _ => rfl)) pe_int (fun _ _ => rfl)) pa_nil))) (pe_lst (pa_cons (pe_ix (r := rIxL K) ix_list (pe_ix (r := rIxL K) ix_list (pv 5) (pv 7) (fun _ _ => rfl)) pe_int (fun _ _ => rfl)) (pa_cons (pv 9) pa_nil)))) (pg_sub (pv 5) (pv 7) set_list))))) pss_nil) (pss_cons (ps_set (i := 10) sc.nd rfl (Or.inl rfl) (pe_cmpR (op_eqD hr.units) (pe_lc (own := [("_law_k", 17)]) rfl sc.nd (pi_tup (pe_tup (pa_cons pe_int (pa_cons pe_int pa_nil)))) (blkOk_by (by change blkC ["_law_well_here", "_law_turn", "_law_one", "_law_two_here", "_law_pair", "_law_some", "_law_is_same", "_law_at", "_law_index", "_law_changed_here", "_law_due", "_law_line_here", "_law_near_here", "_law_both", "_law_far", "_law_told", "_law_again", "_law_k", "_law_lot_here", "_law_each"] (C8.fnScope (topS 96)) _ _ = true; decide +kernel)) (fun _ _ _ _ _ => (pg_name (i := 17) sc.nd rfl (by first | exact Or.inl rfl | exact Or.inr rfl))) (fun _ _ _ _ _ => (pts_one (pt_not (pt_val (C8.pe_c c_law_fits_one hr (by decide) (by rfl) (pa_cons (pv 2) (pa_cons (pv 3) (pa_cons (pe_ix (r := rIxL K) ix_list (pe_ix (r := rIxL K) ix_list (pv 5) pe_int (fun _ _ => rfl)) (pv 17) (fun _ _ => rfl)) (pa_cons (pe_ix (r := rIxL K) ix_list (pe_ix (r := rIxL K) ix_list (pv 5) pe_int (fun _ _ => rfl)) (pv 17) (fun _ _ => rfl)) pa_nil))))))))) (fun _ _ _ _ _ => (pv 17))) (pe_lst pa_nil) (nomark _))) (pss_cons (ps_asg (pe_tup (pa_cons (C8.pe_c c_law_line hr (by decide) (by rfl) (pa_cons (pv 2) pa_nil)) (pa_cons (C8.pe_c c_law_line hr (by decide) (by rfl) (pa_cons (pv 3) pa_nil)) (pa_cons (C8.pe_c c_law_lines hr (by decide) (by rfl) (pa_cons (pe_ix (r := rIxL K) ix_list (pv 5) pe_int (fun _ _ => rfl)) pa_nil)) (pa_cons (C8.pe_c c_law_lines hr (by decide) (by rfl) (pa_cons (pe_ix (r := rIxL K) ix_list (pv 5) pe_int (fun _ _ => rfl)) pa_nil)) pa_nil))))) (pg_tup rfl (pgs_cons (pg_name (i := 11) sc.nd rfl (Or.inl rfl)) (pgs_cons (pg_name (i := 12) sc.nd rfl (Or.inl rfl)) (pgs_cons (pg_name (i := 13) sc.nd rfl (Or.inl rfl)) (pgs_cons (pg_name (i := 14) sc.nd rfl (Or.inl rfl)) pgs_nil)))))) (pss_cons (ps_set (i := 15) sc.nd rfl (Or.inl rfl) (C8.pe_c csplitter_read hr (by decide) (by rfl) (pa_cons (pv 11) (pa_cons (pv 13) (pa_cons (pv 12) (pa_cons (pv 14) pa_nil)))))) (pss_cons (ps_set (i := 16) sc.nd rfl (Or.inl rfl) (pe_callKW (E := C8.E0) fKW (hr.mono (by decide)) (by rfl) mKW kKW bKW C8.pass0 (pk_cons (pv 11) (pk_cons (pv 13) (pk_cons (pv 12) (pk_cons (pv 14) pk_nil)))))) (pss_cons (ps_if (PW.pt (pw_or (pt_cmpR op_ne (pe_cmpR op_notN (pv 15) pe_non (nomark _)) (pv 10) (nomark _)) (pw_or1 (pt_cmpR op_ne (pe_callB (call_reprD hgd (by have h := hr.un; show (A.deeper _).units + 70 < cLine; omega)) (by rfl) mrepr (by decide +kernel) (pa_cons (pv 16) pa_nil)) (pe_callB (call_reprD hgd (by have h := hr.un; show (A.deeper _).units + 70 < cLine; omega)) (by rfl) mrepr (by decide +kernel) (pa_cons (pv 15) pa_nil)) (nomark _))))) (pss_one (ps_ret pe_bl)) pss_nil) (pss_cons (ps_if (PW.pt (pw_and (pt_val (pv 10)) (pw_and1 (pt_not (PW.pt (pw_and (pt_val (C8.pe_c c_law_is_led hr (by decide) (by rfl) (pa_cons (pv 15) (pa_cons (pv 2) (pa_cons (pe_ix (r := rIxL K) ix_list (pv 5) pe_int (fun _ _ => rfl)) pa_nil))))) (pw_and1 (pt_val (C8.pe_c c_law_is_led hr (by decide) (by rfl) (pa_cons (pv 15) (pa_cons (pv 3) (pa_cons (pe_ix (r := rIxL K) ix_list (pv 5) pe_int (fun _ _ => rfl)) pa_nil)))))))))))) (pss_one (ps_ret pe_bl)) pss_nil) (pss_one (ps_if (PW.pt (pw_and (pt_val (pv 6)) (pw_and (pt_cmpR (op_neK (by have h := hr.un; show (A.deeper _).units + 70 < cLine; omega)) (C8.pe_c c_law_crossed hr (by decide) (by rfl) (pa_cons (pv 2) (pa_cons (pv 3) pa_nil))) pe_dnewK (nomark _)) (pw_and1 (pt_cmpR op_ne (pe_callB (call_reprD hgd (by have h := hr.un; show (A.deeper _).units + 70 < cLine; omega)) (by rfl) mrepr (by decide +kernel) (pa_cons (pv 15) pa_nil)) (pe_callB (call_reprD hgd (by have h := hr.un; show (A.deeper _).units + 70 < cLine; omega)) (by rfl) mrepr (by decide +kernel) (pa_cons (C8.pe_c c_law_lines hr (by decide) (by rfl) (pa_cons (pv 4) pa_nil)) pa_nil)) (nomark _)))))) (pss_one (ps_ret pe_bl)) pss_nil)))))))))))))) (pss_one (ps_ret pe_bl))), ?_⟩), D.mgf, D.kp, bb⟩
  · obtain ⟨a, W, B, us, _, rfl, h1, _⟩ := h
    cases h1
    rfl
  obtain ⟨a, W, B, us, _, rfl, ha, hw, hB, q⟩ := h
  refine (?_ : BdW W 1000 _ [some (dV (.ref W)), none, none, none, none, none, none, none, none, none, none, none, none, none, none, none, none, none, none, none] (dV (.bl true))) { nx := fun _ H' => Q .non H', rt := Q } _ H B (sl_start (dl := [dV (.ref W)]) (.cons rfl ha)) hw hB q
  refine BdW.le (n := 400 + 400 + 0) (bw_for2 (n := 400) (fun j hj => ?_) (bw_ret (ew_of ed_v))) (by omega)
  have hat0 : ∀ {ds : List (Option DP)} {S : Addr} {c0 c1 o0 o1 : L}, ds[5]? = some (some (dS4 K S c0 c1 o0 o1)) → EvD (tOp (rIxL K) (tVar 5) (tC (.int 0))) ds (dLst K [dLot K c0, dLot K c1]) ∧ EvD (tOp (rIxL K) (tVar 5) (tC (.int 1))) ds (dLst K [dLot K o0, dLot K o1]) := fun h =>
    ⟨(ed_op (op_ixLP rfl) ((ed_var h).imp imp_at) ed_v).imp imp_lsX, (ed_op (op_ixLP rfl) ((ed_var h).imp imp_at) ed_v).imp imp_lsX⟩
  have st1 : StL W [some (dV (.ref W)), some (dV (.int (j : Int))), none, none, none, none, none, none, none, none, none, none, none, none, none, none, none, none, none, none] := stL_some stW_V (stL_some stW_V (stL_nones 18))
  -- one, two
  refine sy_unlX (K := K) (n := 130) (k1 := 130) (S := TwoOk) (d1 := fun q => dLot K q.1) (d2 := fun q => dLot K q.2) st1 (by omega) (by omega) (EvW.le (n := 0 + 130) (ew_callW (callW () trivial) rfl eaw_nil) (by omega)) fun ⟨a, b⟩ tw => ?_
  have ra : RowOk a := tw.ra
  have rb : RowOk b := tw.rb
  have st2 := (st1.set (stW_lot (K := K) (p := a)) 2).set (stW_lot (K := K) (p := b)) 3
  -- pair
  have sw := (stL_wipe st2 [17])
  refine sy_setX (n := 62) (k1 := 192) (S := fun q : L × L => FilOk q.1 ∧ FilOk q.2) (D := fun q => dLst K [dLot K q.1, dLot K q.2]) st2 (by omega) (by omega) (EvW.imp (ew_lcT2 (K := K) (n := 31) (d0 := dV (.int 0)) (d1 := dV (.int 1)) (e := dEx FilOk (dLot K)) st2 stW_V stW_V (ed_tupP (ea_cons ed_v (ea_cons ed_v ea_nil)) (by simp)) (by simp) (fun j d hd => ?_) (stiff_ex fun _ _ => stiff_lot)) imp_lst2) fun ⟨f0, f1⟩ ⟨h0, h1⟩ => ?_
  · have sd : StW W d := by
      rcases j with _ | _ | j
      · rw [← Option.some.inj hd]
        exact stW_V
      · rw [← Option.some.inj hd]
        exact stW_V
      · simp at hd
    have st3 := sw.set sd 17
    exact ew_if (n := 1) (m := 30) st3 (ebw_test (ew_op (n := 1) (m := 0) st3 stW_upTo op_eqX (ew_take rfl ed_v (by decide) (by decide) st3) (ew_of ed_v))) (EvW.le (EvW.imp (ew_of ed_no) (imp_exI (S := FilOk) (D := dLot K) (x := 0) (.inl rfl))) (by omega)) (EvW.imp (ew_near rfl (by decide) st3) (imp_ex fun x hx => ⟨x, .inr hx, imp_refl⟩))
  replace h0 : FilOk f0 := h0
  replace h1 : FilOk f1 := h1
  -- the channels
  refine sy_new (k := 192) (by omega) (ed_lcLL (K := K) (g := fun j => if j = 0 then (chan f0 a, chan f1 a) else (chan f0 b, chan f1 b)) (ed_tupP (ea_cons (ed_var rfl) (ea_cons (ed_var rfl) ea_nil)) (by simp)) (by simp) fun jj d hd => ?_) fun S => ?_
  · have hz : ∃ z, RowOk z ∧ d = dLot K z ∧ (if jj = 0 then (chan f0 a, chan f1 a) else (chan f0 b, chan f1 b)) = (chan f0 z, chan f1 z) := by
      rcases jj with _ | _ | jj
      · exact ⟨a, ra, (Option.some.inj hd).symm, rfl⟩
      · exact ⟨b, rb, (Option.some.inj hd).symm, rfl⟩
      · simp at hd
    obtain ⟨z, rz, rfl, ez⟩ := hz
    rw [ez]
    have := ed_lcLX (K := K) (dl := [dLot K f0, dLot K f1]) (i := 19) (vs := [19]) (te := tVar 4) (ds := (wipeD ((((([some (dV (.ref W)), none, none, none, none, none, none, none, none, none, none, none, none, none, none, none, none, none, none, none].set 1 (some (dV (.int (j : Int))))).set 2 (some (dLot K a))).set 3 (some (dLot K b))).set 4 (some (dLst K [dLot K f0, dLot K f1])))) [18]).set 18 (some (dLot K z)))
      (te' := tCall (spF (fun q : L × L => TmOk q.1 q.2) (fun q => [dLot K q.1, dLot K q.2]) (fun q => dLot K (chan q.1 q.2))) [] C8.E0 (tCons (tVar 19) (tCons (tVar 18) tNil)))
      (f := fun i => dLot K (chan (if i = 0 then f0 else f1) z)) (ed_var rfl) (by simp) (by simp) (fun i d hd => ?_) (fun _ _ _ => stiff_lot)
    · exact this
    · rcases i with _ | _ | i
      · rw [← Option.some.inj hd]
        exact ed_call (callP (f0, z) (M.tm h0 rz)) (ea_cons (ed_var rfl) (ea_cons (ed_var rfl) ea_nil))
      · rw [← Option.some.inj hd]
        exact ed_call (callP (f1, z) (M.tm h1 rz)) (ea_cons (ed_var rfl) (ea_cons (ed_var rfl) ea_nil))
      · simp at hd
  have st5 : StL W ([some (dV (.ref W)), some (dV (.int (j : Int))), some (dLot K a), some (dLot K b), some (dLst K [dLot K f0, dLot K f1]), some (dS4 K S (chan f0 a) (chan f1 a) (chan f0 b) (chan f1 b)), none, none, none, none, none, none, none, none, none, none, none, none, none, none] : List (Option DP)) :=
    stL_some stW_V (stL_some stW_V (stL_some stW_lot (stL_some stW_lot (stL_some (stW_lst lot_noint fun d hd => by
      rcases List.mem_cons.mp hd with z | z
      · rw [z]; exact stW_lot
      · rw [List.mem_singleton.mp z]; exact stW_lot) (stL_some stW_S4 (stL_nones 14))))))
  -- is it the same
  refine sy_setX (n := 1) (k1 := 193) (S := fun _ : Bool => True) (D := fun s => dV (.bl s)) st5 (by omega) (by omega) (ew_op (n := 1) (m := 0) st5 stW_upTo op_eqX (ew_take rfl ed_v (by decide) (by decide) st5) (ew_of ed_v)) fun sm _ => ?_
  have st6 := st5.set (stW_V (v := .bl sm)) 6
  -- some is changed
  refine sy_seq (k1 := 300) (ds1 := [some (dV (.ref W)), none, some (dLot K a), some (dLot K b), some (dLst K [dLot K f0, dLot K f1]), some (dEx (fun q : L × L × L × L => TurnIn a b f0 f1 q.1 q.2.1 q.2.2.1 q.2.2.2 sm) fun q => dS4 K S q.1 q.2.1 q.2.2.1 q.2.2.2), some (dV (.bl sm)), none, none, none, none, none, none, none, none, none, none, none, none, none]) (by omega) (sy_ite (b1 := !sm) (eb_not (eb_test (ed_var rfl))) (fun hs => ?_) (fun hs => ?_)) ?_
  · have hs : sm = false := by simpa using hs
    refine sy_seq (k1 := 195) (by omega) (sy_par (n := 2) (d1 := dUpTo 2) (d2 := dUpTo 2) st6 (by omega) (EvAW.le (n := 1 + (1 + 0)) (eaw_cons st6 stW_upTo (ew_take rfl ed_v (by decide) (by decide) st6) (eaw_cons st6 stW_upTo (ew_take rfl ed_v (by decide) (by decide) st6) eaw_nil)) (by omega))) ?_
    refine sy_open (i := 7) rfl fun at' hat => sy_open (i := 8) rfl fun ix hix => ?_
    replace hat : at' = 0 ∨ at' = 1 := by
      have h1 := hat.1
      have h2 := hat.2
      omega
    replace hix : ix = 0 ∨ ix = 1 := by
      have h1 := hix.1
      have h2 := hix.2
      omega
    have blk : ∀ (x y0 y1 : L), (∀ ds : List (Option DP), ds[5]? = some (some (dS4 K S (chan f0 a) (chan f1 a) (chan f0 b) (chan f1 b))) → ds[7]? = some (some (dV (.int at'))) → ds[8]? = some (some (dV (.int ix))) →
        EvD (tOp (rIxL K) (tOp (rIxL K) (tVar 5) (tVar 7)) (tVar 8)) ds (dLot K x) ∧ EvD (tOp (rIxL K) (tOp (rIxL K) (tVar 5) (tVar 7)) (tC (.int 0))) ds (dLot K y0) ∧ EvD (tOp (rIxL K) (tOp (rIxL K) (tVar 5) (tVar 7)) (tC (.int 1))) ds (dLot K y1)) → (SmL x ∧ K65.W 100 x) →
        (∀ x', ChEnt x x' → TurnIn a b f0 f1 (if at' = 0 then (if ix = 0 then x' else y0) else chan f0 a) (if at' = 0 then (if ix = 0 then y1 else x') else chan f1 a) (if at' = 0 then chan f0 b else (if ix = 0 then x' else y0)) (if at' = 0 then chan f1 b else (if ix = 0 then y1 else x')) sm) →
        StY W [S] 195 300 (tSeq (tAsg (tIf (tTest (tOp (rI0 fun i j => .bl (decide (j < i))) (tCall (spW 1 (fun c : Int => 0 < c ∧ c < 1073741824) (fun W c => [dV (.int c)]) (fun c => dUpTo c)) [] C8.E0 (tCons (tVar 0) (tCons (tC (.int 3)) tNil))) (tC (.int 0))))
            (tCall (spW 10 (fun p : L => SmL p ∧ K65.W 100 p) (fun W p => [dLot K p]) (fun p => dEx (ChgOk p) (dLot K))) [] C8.E0 (tCons (tVar 0) (tCons (tOp (rIxL K) (tOp (rIxL K) (tVar 5) (tVar 7)) (tVar 8)) tNil)))
            (tCall (spW 30 (fun m : Int => 1 ≤ m ∧ m ≤ 4) (fun W m => [dV (.int m)]) (fun m => dNear K m)) [] C8.E0 (tCons (tVar 0) (tCons (tC (.int 3)) tNil)))) (gName 9))
          (tAsg (tIf (tTest (tOp rEq (tVar 8) (tC (.int 0)))) (tLst (tCons (tVar 9) (tCons (tOp (rIxL K) (tOp (rIxL K) (tVar 5) (tVar 7)) (tC (.int 1))) tNil))) (tLst (tCons (tOp (rIxL K) (tOp (rIxL K) (tVar 5) (tVar 7)) (tC (.int 0))) (tCons (tVar 9) tNil)))) (gSub (tVar 5) (tVar 7) rSetL)))
          [some (dV (.ref W)), some (dV (.int (j : Int))), some (dLot K a), some (dLot K b), some (dLst K [dLot K f0, dLot K f1]), some (dS4 K S (chan f0 a) (chan f1 a) (chan f0 b) (chan f1 b)), some (dV (.bl sm)), some (dV (.int at')), some (dV (.int ix)), none, none, none, none, none, none, none, none, none, none, none]
          [some (dV (.ref W)), none, some (dLot K a), some (dLot K b), some (dLst K [dLot K f0, dLot K f1]), some (dEx (fun q : L × L × L × L => TurnIn a b f0 f1 q.1 q.2.1 q.2.2.1 q.2.2.2 sm) fun q => dS4 K S q.1 q.2.1 q.2.2.1 q.2.2.2), some (dV (.bl sm)), none, none, none, none, none, none, none, none, none, none, none, none, none] := fun x y0 y1 hx hsm hT => by
      have st7 : StL W ([some (dV (.ref W)), some (dV (.int (j : Int))), some (dLot K a), some (dLot K b), some (dLst K [dLot K f0, dLot K f1]), some (dS4 K S (chan f0 a) (chan f1 a) (chan f0 b) (chan f1 b)), some (dV (.bl sm)), some (dV (.int at')), some (dV (.int ix)), none, none, none, none, none, none, none, none, none, none, none] : List (Option DP)) := (st6.set (stW_V (v := .int at')) 7).set (stW_V (v := .int ix)) 8
      refine sy_setX (n := 31) (k1 := 230) (S := ChEnt x) (D := dLot K) st7 (by omega) (by omega) (ew_if (n := 1) (m := 30) st7 (ebw_test (ew_op (n := 1) (m := 0) st7 stW_upTo op_cmpX (ew_take rfl ed_v (by decide) (by decide) st7) (ew_of ed_v)))
        (EvW.le (n := 0 + 0 + 10) (EvW.imp (ew_callW (callW x hsm) rfl (eaw_cons st7 stW_lot (ew_of (hx _ rfl rfl rfl).1) eaw_nil)) (imp_ex fun z hz => ⟨z, .inr (.inl hz), imp_refl⟩)) (by omega))
        (EvW.imp (ew_near rfl (by decide) st7) (imp_ex fun z hz => ⟨z, .inr (.inr hz), imp_refl⟩))) fun x' hx' => ?_
      refine sy_to (sy_put (K := K) (S := S) (c0 := chan f0 a) (c1 := chan f1 a) (o0 := chan f0 b) (o1 := chan f1 b) (x := if ix = 0 then x' else y0) (y := if ix = 0 then y1 else x') (at' := at') List.mem_cons_self (by omega) rfl rfl hat (ed_if (eb_test (ed_op (op_eqV (x := .int ix) (y := .int 0) rfl) (ed_var rfl) ed_v)) (fun e => ?_) (fun e => ?_)) ?_) ?_
      · have e : ix = 0 := by simpa using e
        rw [if_pos e, if_pos e]
        exact ed_lsX (ea_cons (ed_var rfl) (ea_cons (hx _ rfl rfl rfl).2.2 ea_nil)) (by simp)
      · have e : ix ≠ 0 := by simpa using e
        rw [if_neg e, if_neg e]
        exact ed_lsX (ea_cons (hx _ rfl rfl rfl).2.1 (ea_cons (ed_var rfl) ea_nil)) (by simp)
      · intro i d hi hd
        rcases i with _ | _ | _ | _ | _ | _ | _ | _ | _ | _ | i
        · rw [← Option.some.inj (Option.some.inj hd)]; exact kpS_stiff stiff_V
        · rw [← Option.some.inj (Option.some.inj hd)]; exact kpS_stiff stiff_V
        · rw [← Option.some.inj (Option.some.inj hd)]; exact kpS_stiff stiff_lot
        · rw [← Option.some.inj (Option.some.inj hd)]; exact kpS_stiff stiff_lot
        · rw [← Option.some.inj (Option.some.inj hd)]; exact kpS_pair
        · exact absurd rfl hi
        · rw [← Option.some.inj (Option.some.inj hd)]; exact kpS_stiff stiff_V
        · rw [← Option.some.inj (Option.some.inj hd)]; exact kpS_stiff stiff_V
        · rw [← Option.some.inj (Option.some.inj hd)]; exact kpS_stiff stiff_V
        · rw [← Option.some.inj (Option.some.inj hd)]; exact kpS_stiff stiff_lot
        · exfalso
          have : (List.replicate 10 (none : Option DP))[i]? = some (some d) := hd
          rw [List.getElem?_replicate] at this
          split at this <;> cases this
      · refine .some imp_refl (.none (.some imp_refl (.some imp_refl (.some imp_refl (.some (fun v H h => ⟨(_, _, _, _), hT x' hx', ?_⟩) (.some imp_refl (.none (.none (.none (.none (.none (.none (.none (.none (.none (.none (.none (.none (.none .nil)))))))))))))))))))
        rcases hat with e | e <;> subst e <;> exact h
    have ix5 : ∀ {ds : List (Option DP)}, ds[5]? = some (some (dS4 K S (chan f0 a) (chan f1 a) (chan f0 b) (chan f1 b))) → ds[7]? = some (some (dV (.int at'))) → EvD (tOp (rIxL K) (tVar 5) (tVar 7)) ds (dLst K [dLot K (if at' = 0 then chan f0 a else chan f0 b), dLot K (if at' = 0 then chan f1 a else chan f1 b)]) := fun h5 h7 => by
      rcases hat with e | e <;> subst e
      · exact (ed_op (op_ixLP rfl) ((ed_var h5).imp imp_at) (ed_var h7)).imp imp_lsX
      · exact (ed_op (op_ixLP rfl) ((ed_var h5).imp imp_at) (ed_var h7)).imp imp_lsX
    refine blk (if ix = 0 then (if at' = 0 then chan f0 a else chan f0 b) else (if at' = 0 then chan f1 a else chan f1 b)) (if at' = 0 then chan f0 a else chan f0 b) (if at' = 0 then chan f1 a else chan f1 b) (fun ds h5 h7 h8 => ⟨?_, ed_op (op_ixLP rfl) (ix5 h5 h7) ed_v, ed_op (op_ixLP rfl) (ix5 h5 h7) ed_v⟩) ?_ ?_
    · rcases hix with e | e <;> subst e
      · exact ed_op (op_ixLP rfl) (ix5 h5 h7) (ed_var h8)
      · exact ed_op (op_ixLP rfl) (ix5 h5 h7) (ed_var h8)
    · rcases hix with e | e <;> subst e <;> rcases hat with e | e <;> subst e
      · exact M.ent h0 ra
      · exact M.ent h0 rb
      · exact M.ent h1 ra
      · exact M.ent h1 rb
    · intro x' hx'
      rcases hix with e | e <;> subst e <;> rcases hat with e | e <;> subst e
      · exact ⟨tw, ra, rb, h0, h1, hx', .inl rfl, .inl rfl, .inl rfl, fun z => by rw [hs] at z; cases z⟩
      · exact ⟨tw, ra, rb, h0, h1, .inl rfl, .inl rfl, hx', .inl rfl, fun z => by rw [hs] at z; cases z⟩
      · exact ⟨tw, ra, rb, h0, h1, .inl rfl, hx', .inl rfl, .inl rfl, fun z => by rw [hs] at z; cases z⟩
      · exact ⟨tw, ra, rb, h0, h1, .inl rfl, .inl rfl, .inl rfl, hx', fun z => by rw [hs] at z; cases z⟩
  · have hs : sm = true := by simpa using hs
    refine sy_to (sy_next (by omega)) (.some imp_refl (.none (.some imp_refl (.some imp_refl (.some imp_refl (.some (fun v H h => ⟨(chan f0 a, chan f1 a, chan f0 b, chan f1 b), ⟨tw, ra, rb, h0, h1, .inl rfl, .inl rfl, .inl rfl, .inl rfl, fun _ => ⟨rfl, rfl, rfl, rfl⟩⟩, h⟩) (.some imp_refl (.none (.none (.none (.none (.none (.none (.none (.none (.none (.none (.none (.none (.none .nil))))))))))))))))))))
  refine sy_open (i := 5) rfl fun ⟨c0, c1, o0, o1⟩ TI => ?_
  replace TI : TurnIn a b f0 f1 c0 c1 o0 o1 sm := TI
  obtain ⟨r0, r1, res, res', T⟩ := M.turn TI
  have sl0 : ∀ {ds : List (Option DP)}, ds[5]? = some (some (dS4 K S c0 c1 o0 o1)) → ∀ jj : Int, jj = 0 ∨ jj = 1 → ∀ {tj : TE}, EvD tj ds (dV (.int jj)) → EvD (tOp (rIxL K) (tOp (rIxL K) (tVar 5) (tC (.int 0))) tj) ds (dLot K (if jj = 0 then c0 else c1)) ∧ EvD (tOp (rIxL K) (tOp (rIxL K) (tVar 5) (tC (.int 1))) tj) ds (dLot K (if jj = 0 then o0 else o1)) := fun h jj hj tj ej => by
    rcases hj with e | e <;> subst e
    · exact ⟨ed_op (op_ixLP rfl) (hat0 h).1 ej, ed_op (op_ixLP rfl) (hat0 h).2 ej⟩
    · exact ⟨ed_op (op_ixLP rfl) (hat0 h).1 ej, ed_op (op_ixLP rfl) (hat0 h).2 ej⟩
  -- is it due
  refine sy_seq (k1 := 301) (by omega) (sy_st (by omega) (st_asg (d1 := dV (.bl (r0 && r1))) ?_)) ?_
  · have hlc := ed_lcT (K := K) (i := 17) (vs := [17]) (dl := [dV (.int 0), dV (.int 1)]) (f := fun jj => dD K (.int (jj : Int))) (p := fun jj => !(if jj = 0 then r0 else r1)) (te := tTup (tCons (tC (.int 0)) (tCons (tC (.int 1)) tNil))) (te' := tVar 17)
      (ds := [some (dV (.ref W)), none, some (dLot K a), some (dLot K b), some (dLst K [dLot K f0, dLot K f1]), some (dS4 K S c0 c1 o0 o1), some (dV (.bl sm)), none, none, none, none, none, none, none, none, none, none, none, none, none])
      (tt := tNot (tTest (tCall (spF (fun q : L × L × L × L × Bool => FitOk q.1 q.2.1 q.2.2.1 q.2.2.2.1 q.2.2.2.2) (fun q => [dLot K q.1, dLot K q.2.1, dLot K q.2.2.1, dLot K q.2.2.2.1]) (fun q => dV (.bl q.2.2.2.2))) [] C8.E0 (tCons (tVar 2) (tCons (tVar 3) (tCons (tOp (rIxL K) (tOp (rIxL K) (tVar 5) (tC (.int 0))) (tVar 17)) (tCons (tOp (rIxL K) (tOp (rIxL K) (tVar 5) (tC (.int 1))) (tVar 17)) tNil)))))))
      (ed_tupP (ea_cons ed_v (ea_cons ed_v ea_nil)) (by simp)) (by simp) (by simp) (fun jj d hd => ?_) (fun jj d hd _ => ?_) (fun jj d hd _ => stiff_D rfl)
    · refine EvD.to (ed_op (op_eqDD (x := .list (((List.range 2).filter fun jj => !(if jj = 0 then r0 else r1)).map fun jj : Nat => PyData.int (jj : Int))) (y := .list []) ?_ (by decide)) (EvD.imp (EvD.imp hlc (fun v H h => ?_)) imp_lst) (EvD.imp (ed_lstP ea_nil (by simp)) (imp_lst (xs := [])))) ?_
      · cases r0 <;> cases r1 <;> decide
      · rw [List.map_map]
        exact h
      · cases r0 <;> cases r1 <;> rfl
    · rcases jj with _ | _ | jj
      · rw [← Option.some.inj hd]
        exact eb_not (eb_test (ed_call (callP (a, b, c0, o0, r0) T.fit0) (ea_cons (ed_var rfl) (ea_cons (ed_var rfl) (ea_cons (sl0 rfl 0 (.inl rfl) (ed_var rfl)).1 (ea_cons (sl0 rfl 0 (.inl rfl) (ed_var rfl)).2 ea_nil))))))
      · rw [← Option.some.inj hd]
        exact eb_not (eb_test (ed_call (callP (a, b, c1, o1, r1) T.fit1) (ea_cons (ed_var rfl) (ea_cons (ed_var rfl) (ea_cons (sl0 rfl 1 (.inr rfl) (ed_var rfl)).1 (ea_cons (sl0 rfl 1 (.inr rfl) (ed_var rfl)).2 ea_nil))))))
      · simp at hd
    · rcases jj with _ | _ | jj
      · rw [← Option.some.inj hd]
        exact (ed_var rfl).imp imp_int'
      · rw [← Option.some.inj hd]
        exact (ed_var rfl).imp imp_int'
      · simp at hd
  -- the lines
  refine sy_seq (k1 := 302) (by omega) (sy_st (by omega) (st_tup4 (K := K) (d1 := dD K (pD a)) (d2 := dD K (pD b)) (d3 := dD K (pairD c0 c1)) (d4 := dD K (pairD o0 o1)) (ed_tupP (ea_cons (ed_call (callP a T.wa) (ea_cons (ed_var rfl) ea_nil)) (ea_cons (ed_call (callP b T.wb) (ea_cons (ed_var rfl) ea_nil)) (ea_cons (ed_call (callP (c0, c1) T.sp.w1) (ea_cons (hat0 rfl).1 ea_nil)) (ea_cons (ed_call (callP (o0, o1) T.sp.w2) (ea_cons (hat0 rfl).2 ea_nil)) ea_nil)))) (by simp)))) ?_
  -- told, told again
  refine sy_seq (k1 := 303) (by omega) (sy_st (by omega) (st_asg (ed_call (callP (a, (c0, c1), b, (o0, o1), res, res') T.sp) (ea_cons (ed_var rfl) (ea_cons (ed_var rfl) (ea_cons (ed_var rfl) (ea_cons (ed_var rfl) ea_nil))))))) ?_
  refine sy_seq (k1 := 304) (by omega) (sy_st (by omega) (st_asg (ed_callK (callP (a, (c0, c1), b, (o0, o1), res, res') T.sp) (ea_cons (ed_var rfl) (ea_cons (ed_var rfl) (ea_cons (ed_var rfl) (ea_cons (ed_var rfl) ea_nil))))))) ?_
  have hsh : optPair (toldOf res res') = .none ∨ ∃ xs, optPair (toldOf res res') = .tuple xs := by
    cases toldOf res res' with
    | none => exact .inl rfl
    | some p => exact .inr ⟨_, rfl⟩
  have rep : ∀ {ds : List (Option DP)} {i : Nat}, ds[i]? = some (some (dD K (optPair (toldOf res res')))) → EvD (tCB (rRepr K) (tCons (tVar i) tNil)) ds (dV (.str (optPair (toldOf res res')).shown)) := fun h => ed_cb (rc_repr T.sh hsh) (ea_cons (ed_var h) ea_nil)
  refine sy_seq (k1 := 305) (by omega) (sy_ite (b1 := false) (EvB.to (eb_or (b1 := false) (b2 := false) (EvB.to (eb_test (ed_op (op_neV (x := .bl (toldOf res res').isSome) (y := .bl (r0 && r1)) rfl) (ed_notNT (ed_var rfl)) (ed_var rfl))) ?_) fun _ => EvB.to (eb_test (ed_op (op_neV rfl) (rep rfl) (rep rfl))) ?_) rfl) (fun e => nomatch e) (fun _ => sy_next (by omega))) ?_
  · rw [T.told]
    simp
  · simp
  refine sy_seq (k1 := 306) (by omega) (sy_ite (b1 := false) ?_ (fun e => nomatch e) (fun _ => sy_next (by omega))) ?_
  · cases hd : (r0 && r1) with
    | false => exact eb_and (b1 := false) (b2 := false) (eb_test (ed_var rfl)) (fun e => nomatch e)
    | true =>
      have hs := T.told
      rw [hd] at hs
      obtain ⟨⟨t0, t1⟩, ht⟩ := Option.isSome_iff_exists.mp hs
      obtain ⟨l0, l1⟩ := T.led t0 t1 ht
      have h15 : ∀ {ds : List (Option DP)}, ds[15]? = some (some (dD K (optPair (toldOf res res')))) → EvD (tVar 15) ds (dD K (pairD t0 t1)) := fun h => by
        rw [ht] at h
        exact ed_var h
      exact eb_and (b1 := true) (b2 := false) (eb_test (ed_var rfl)) fun _ => EvB.to (eb_not (b1 := true) (eb_and (b1 := true) (b2 := true) (eb_test (ed_call (callP (t0, t1, a, c0, c1) l0) (ea_cons (h15 rfl) (ea_cons (ed_var rfl) (ea_cons (hat0 rfl).1 ea_nil))))) fun _ => eb_test (ed_call (callP (t0, t1, b, o0, o1) l1) (ea_cons (h15 rfl) (ea_cons (ed_var rfl) (ea_cons (hat0 rfl).2 ea_nil)))))) rfl
  refine sy_to (ds1 := [some (dV (.ref W)), none, some (dLot K a), some (dLot K b), some (dLst K [dLot K f0, dLot K f1]), some (dS4 K S c0 c1 o0 o1), some (dV (.bl sm)), none, none, none, some (dV (.bl (r0 && r1))), some (dD K (pD a)), some (dD K (pD b)), some (dD K (pairD c0 c1)), some (dD K (pairD o0 o1)), some (dD K (optPair (toldOf res res'))), some (dD K (optPair (toldOf res res'))), none, none, none]) (sy_ite (b1 := false) ?_ (fun e => nomatch e) (fun _ => sy_next (by omega))) (.some imp_refl (.none (.none (.none (.none (.none (.none (.none (.none (.none (.none (.none (.none (.none (.none (.none (.none (.none (.none (.none .nil))))))))))))))))))))
  show EvB _ [some (dV (.ref W)), none, some (dLot K a), some (dLot K b), some (dLst K [dLot K f0, dLot K f1]), some (dS4 K S c0 c1 o0 o1), some (dV (.bl sm)), none, none, none, some (dV (.bl (r0 && r1))), some (dD K (pD a)), some (dD K (pD b)), some (dD K (pairD c0 c1)), some (dD K (pairD o0 o1)), some (dD K (optPair (toldOf res res'))), some (dD K (optPair (toldOf res res'))), none, none, none] false
  cases hsm : sm with
  | false => exact eb_and (b1 := false) (b2 := false) (eb_test (ed_var rfl)) (fun e => nomatch e)
  | true =>
    refine eb_and (b1 := true) (b2 := false) (eb_test (ed_var rfl)) fun _ => ?_
    refine EvB.to (b := !isZ (even a * odd b - odd a * even b) && false) ?_ (Bool.and_false _)
    refine eb_and (b1 := !isZ (even a * odd b - odd a * even b)) (b2 := false) (eb_neNoL (ed_call (callP (a, b) T.cr) (ea_cons (ed_var rfl) (ea_cons (ed_var rfl) ea_nil)))) fun e => ?_
    have ne : even a * odd b - odd a * even b ≠ 0 := isZ_not.mp (by simpa using e)
    have hu := T.uniq hsm ne
    have hp : optPair (toldOf res res') = pairD f0 f1 := by rw [hu]; rfl
    have rp := rep (i := 15) (ds := [some (dV (.ref W)), none, some (dLot K a), some (dLot K b), some (dLst K [dLot K f0, dLot K f1]), some (dS4 K S c0 c1 o0 o1), some (dV (.bl true)), none, none, none, some (dV (.bl (r0 && r1))), some (dD K (pD a)), some (dD K (pD b)), some (dD K (pairD c0 c1)), some (dD K (pairD o0 o1)), some (dD K (optPair (toldOf res res'))), some (dD K (optPair (toldOf res res'))), none, none, none]) rfl
    refine EvB.to (eb_test (ed_op (op_neV (x := .str (optPair (toldOf res res')).shown) (y := .str (optPair (toldOf res res')).shown) rfl) rp (ed_cb (rc_repr T.sh hsh) (ea_cons ?_ ea_nil)))) (by simp)
    rw [hp]
    exact ed_call (callP (f0, f1) T.wf) (ea_cons (ed_var rfl) ea_nil)
end
end K65

/-! K65LT: the law's own def -/
namespace K65
open PySem PySem.Spec PyProof.Rows L2
section
variable {P : Program} {w : World} {mg : Str → Option Value} {base : Heap} {K : PySem.W.Frag} {ds : List (Option DP)} {tas : TA}
/-- one well of its own -/
theorem ed_right {ns : List Int} {tn : Int} (h : EvA tas ds [dInts K ns, dV (.int tn)]) (h1 : ns.length ≤ 1000 ∧ 0 ≤ tn ∧ tn ≤ 1000) :
    EvD (tCall (spW 1000 (fun _ : Unit => True) (fun _ _ => []) (fun _ => dV (.bl true))) [] C8.E0 (tCons (tCall (spR (fun q : List Int × Int => q.1.length ≤ 1000 ∧ 0 ≤ q.2 ∧ q.2 ≤ 1000) (fun q => [dInts K q.1, dV (.int q.2)]) (fun _ => dWell)) [] C8.E0 tas) tNil)) ds (dV (.bl true)) := fun σ H s Q q =>
  h σ H s _ fun vs H0 e0 hvs => by
    refine ⟨(ns, tn), h1, by rw [List.append_nil]; exact hvs, fun v H1 b hv e1 hb hw => ?_⟩
    obtain ⟨W1, hv2, hW⟩ := hw
    rw [hv] at hv2
    have hv2 : b = W1 := V.ref.inj hv2
    subst hv2
    subst hv
    refine ⟨(), b, 0, [], trivial, rfl, .nil, hW, by omega, fun v H2 c hv => q v H2 (fun x o hx => ?_) hv⟩
    have ne : x ≠ b := fun z => by
      subst z
      rw [e0 _ _ hx] at hb
      cases hb
    exact c.rest _ _ ne (e1 _ _ (e0 _ _ hx))
variable (F : Facts K mg)
include F
theorem g_law (M : MathOk) (SK : SplK K mg) {f0 : Addr} {fd : FuncData} (D : C8.Def K mg "law" (topS 97) f0 fd) : FnG P w K mg base 12 f0 fd ["_law_script"] (spF (fun ns : List Int => ns.length ≤ 1000) (fun ns => [dInts K ns]) (fun _ => dV (.bl true))) := by
  have mall := F.m_all
  have mrange := F.m_range
  have c_law_right := c__law_right (P := P) (w := w) (base := base) F M SK
  have c_law_well := c__law_well (P := P) (w := w) (base := base) F
  have c_law_rounds := c__law_rounds (P := P) (w := w) (base := base) F
  have sc : FnScope ["_law_script", "_law_turn"] ["_law_script"] (C8.fnScope (topS 97)) := C8.fnScope_by (by decide +kernel)
  refine fnG_of D sc (fun vs H Q E h => ?_) (fun cdv A outer s H vs Q E hgd hr h => ⟨_, (pss_one (ps_ret (pe_callB (cr_all rfl) (by rfl) mall (by decide +kernel) (pa_cons (pe_lc (own := [("_law_turn", 1)]) rfl sc.nd (pi_range1 (by rfl) mrange (pa_cons (C8.pe_c c_law_rounds hr (by decide) (by rfl) (pa_cons (pv 0) pa_nil)) pa_nil)) (blkOk_by (by change blkC ["_law_script", "_law_turn"] (C8.fnScope (topS 97)) _ _ = true; decide +kernel)) (fun _ _ _ _ _ => (pg_name (i := 1) sc.nd rfl (by first | exact Or.inl rfl | exact Or.inr rfl))) (fun _ _ _ _ _ => pts_nil) (fun _ _ _ _ _ => (pe_cG c_law_right hgd hr (by decide) (by rfl) (pa_cons (C8.pe_c c_law_well hr (by decide) (by rfl) (pa_cons (pv 0) (pa_cons (pv 1) pa_nil))) pa_nil)))) pa_nil)))), ?_⟩)
  · obtain ⟨a, _, h1, _⟩ := h
    rw [h1.length]
    rfl
  obtain ⟨ns, hl, ha, q⟩ := h
  replace hl : ns.length ≤ 1000 := hl
  refine (?_ : BdD _ [some (dInts K ns), none] (dV (.bl true))) { nx := fun _ H' => Q .non H', rt := Q } _ H (sl_start (dl := [dInts K ns]) ha) q
  have hall : ((List.replicate (max 2 (min (ns.length : Int) 3)).toNat true).all id) = true := by
    rw [List.all_eq_true]
    intro x hx
    rw [List.eq_of_mem_replicate hx]
    rfl
  refine b_ret (EvD.to (ed_cb (rc_all (K := K) (bs := List.replicate (max 2 (min (ns.length : Int) 3)).toNat true)) (ea_cons (EvD.imp (ed_lcR1 (K := K) (f := fun _ => dV (.bl true)) (p := fun _ => true) (hi := max 2 (min (ns.length : Int) 3)) (ea_cons (ed_call (callP ns trivial) (ea_cons (ed_var rfl) ea_nil)) ea_nil) (by omega) (by omega) (by simp) (fun jj hj => eb_yes) (fun jj hj _ => ed_right (ns := ns) (tn := (jj : Int)) (ea_cons (ed_var rfl) (ea_cons (ed_var rfl) ea_nil)) ⟨hl, by omega, by omega⟩) (fun _ _ _ => stiff_V)) fun v H h => ?_) ea_nil)) (congrArg V.bl hall))
  rw [all_true] at h
  have e : (List.map (fun _ => dV (V.bl true)) (List.range (max 2 (min (ns.length : Int) 3)).toNat)) = (List.replicate (max 2 (min (ns.length : Int) 3)).toNat true).map fun b => dV (.bl b) := by
    rw [List.map_const', List.map_replicate, List.length_range]
  rw [e] at h
  exact h
end
end K65

/-! K65LU: the end of the law row, for a promise that asks that no repr is under way -/
namespace K65
open PySem PySem.Spec PyProof.Rows L2
theorem ints_all {H : Hp} : ∀ ns : List Int, AllIs (ns.map fun i => dV (.int i)) (ns.map V.int) H
  | [] => .nil
  | _ :: ns => .cons rfl (ints_all ns)
theorem callG {P : Program} {w : World} {K : PySem.W.Frag} {mg mb : Str → Option Value} {k : Nat} {fa a : Addr} {fd : FuncData} {x : Str} {s₁ : Shared} {vs : List Value} {ns : List Int} {n : Nat}
    (KX : K.In s₁.heap) (hns : s₁.heap.Ns mainGlobals mg) (hb : s₁.heap.Ns builtinsNs mb) (hbb : ∀ x : Str, x ≠ "__name__" → mb x = bootBuiltins x) (hlim : s₁.heap.NoLimit) (hg : s₁.gens = #[])
    (ha : s₁.heap.get? a = some { cls := .type "list", data := .seq vs.toArray }) (hi : IntsAre vs ns) (hl : ns.length ≤ n) (hn : n ≤ 1000) (hr : Room k callerA)
    (F : ∀ base : Heap, K.In base → base.Ns mainGlobals mg → FnG P w K mg base k fa fd [x] (spF (fun ns : List Int => ns.length ≤ 1000) (fun ns => [dInts K ns]) (fun _ => dV (.bl true)))) (hbind : ∀ (s : Shared) (u : Value), BindsTo s fd ⟨[u], []⟩ [(x, u)]) :
    codeAny (model P w) callerA (.call (.ref fa) ⟨[.ref a], []⟩) (fun r s' => r = .ok (.ret (.bool true)) ∧ OldK s₁.heap s'.heap ∧ s'.os = s₁.os ∧ AllBare s'.gens) s₁ := by
  have rv := vals_ints hi
  have lenV := hi.length
  have hz : ns.length ≤ sizeLine := Nat.le_of_lt (small1000 (by omega))
  have core : ∀ H : Hp, Only H → SqL K H a (ns.map V.int) → HOk P w H s₁.heap → (∀ b, H b ≠ none → b = a) → (H a ≠ none → K.lookup a = none) →
      codeAny (model P w) callerA (.call (.ref fa) ⟨[.ref a], []⟩) (fun r s' => r = .ok (.ret (.bool true)) ∧ OldK s₁.heap s'.heap ∧ s'.os = s₁.os ∧ AllBare s'.gens) s₁ := by
    intro H hO hS hok hA hK
    have isa : ∀ {b : Addr}, H b ≠ none → s₁.heap.get? b = some { cls := .type "list", data := .seq vs.toArray } := fun {b} z => (hA b z) ▸ ha
    have under : ∀ {b : Addr} {o : Obj}, s₁.heap.get? b = some o → (∀ ob : Obj, s₁.heap.get? b = some ob → ob ≠ { cls := .type "list", data := .seq vs.toArray }) → (hidT s₁.heap H).get? b = some o := fun {b o} e n => hidT_get e (by
      cases q : H b with
      | none => rfl
      | some u => exact absurd rfl (n _ (isa (b := b) (by rw [q]; exact fun z => nomatch z))))
    have nsK : ∀ {b : Addr} {m : Str → Option Value}, s₁.heap.Ns b m → (hidT s₁.heap H).Ns b m := fun {b m} h => by
      obtain ⟨o, es, ep, e, d, r⟩ := h
      refine ⟨o, es, ep, under e fun ob e2 z => ?_, d, r⟩
      rw [e] at e2
      cases e2
      rw [z] at d
      cases d
    have hKb : K.In (hidT s₁.heap H) := fun b o e => hidT_get (KX b o e) (by
      cases q : H b with
      | none => rfl
      | some u =>
        have n0 : H b ≠ none := by rw [q]; exact fun z => nomatch z
        have e' := hA b n0
        subst e'
        rw [hK n0] at e
        cases e)
    have hM : Mod K mg (hidT s₁.heap H) := ⟨hKb, nsK hns, ⟨mb, nsK hb, hbb⟩, let ⟨mc, h1, h2⟩ := hlim; ⟨mc, nsK h1, h2⟩⟩
    have e0 : Env0 P w K mg (hidT s₁.heap H) callerA [] s₁ H := ⟨rfl, hM, fun b o e => of_hidT e, Nat.le_of_eq (hidT_size _ _), trivial, fun b hb => absurd (show b ∈ ([] : List Addr) from hb) (by simp), hok, .of_eq hg⟩
    have hsp : spF (fun ns : List Int => ns.length ≤ 1000) (fun ns => [dInts K ns]) (fun _ => dV (.bl true)) [.ref a] H (fun v _ => v = .bl true) fun _ _ _ => False :=
      ⟨ns, by omega, .cons ⟨a, ns.map V.int, rfl, hS, ints_all ns⟩ .nil, fun v _ _ h => h⟩
    refine codeAny_mono ((F _ hKb (nsK hns)).run callerA [] s₁ H ⟨[.ref a], []⟩ [.ref a] [.ref a] _ _ rfl hr e0 (hbind s₁ (.ref a)) (.cons rfl .nil) hsp) fun r s' h => ?_
    cases r with
    | error e => exact (show False from h).elim
    | ok fl =>
      cases fl with
      | next => exact False.elim h
      | brk => exact False.elim h
      | cont => exact False.elim h
      | ret u =>
        obtain ⟨v, H', os, bare, un, hok', r', q⟩ := h
        have q' : v = .bl true := q
        subst q'
        obtain rfl : u = Value.bool true := r'
        refine ⟨rfl, OldK.of_keep fun b o e => ?_, os, bare⟩
        cases q : H b with
        | none => exact un.keep b o e q (by intro z; exact absurd (show b ∈ ([] : List Addr) from z) (by simp)) (by simp)
        | some u =>
          rcases hO b with z | ⟨ob, xs, z⟩
          · rw [q] at z
            cases z
          · obtain ⟨e1, _⟩ := hok b _ z
            obtain ⟨e2, _⟩ := hok' b _ (un.frzs b ob _ z)
            rw [e] at e1
            cases e1
            exact e2
  cases hk : K.lookup a with
  | some o =>
    have e := KX a o hk
    rw [ha] at e
    cases e
    refine core (fun _ => none) (fun _ => .inl rfl) (.inr ⟨_, vs.toArray, _, hk, rfl, rfl, rfl, by rw [List.size_toArray, lenV]; exact hz, by simpa using rv⟩) (fun b u z => by cases (show (none : Option HO) = some u from z)) (fun b z => absurd rfl z) fun z => absurd rfl z
  | none =>
    refine core (fun b => if b = a then some (.frz { cls := .type "list", data := .seq vs.toArray } (.lst (ns.map V.int))) else none) (fun b => ?_) (.inl (.inr ⟨{ cls := .type "list", data := .seq vs.toArray }, if_pos rfl⟩)) (fun b u z => ?_) (fun b z => ?_) fun _ => hk
    · by_cases hb : b = a
      · exact .inr ⟨_, _, if_pos hb⟩
      · exact .inl (if_neg hb)
    · by_cases hb : b = a
      · have z' := (if_pos hb).symm.trans z
        cases z'
        subst hb
        exact ⟨ha, by rw [List.length_map]; exact hz, vs, _, rv, ha⟩
      · have z' := (if_neg hb).symm.trans z
        cases z'
    · by_cases hb : b = a
      · exact hb
      · exact absurd (if_neg hb) z
theorem walk_ofG {l : PySem.W.OpenLaw} {n k : Nat} {q : Program} {loose : List Str} {XP : (Str → Option Value) → Heap → Prop} {YP : World → Heap → Prop} {d : DefRec} {K : Params → PySem.W.Frag} {x : Str}
    (hn : l.most = some n) (hn2 : n ≤ 1000) (hdf : d.params.defaults = []) (hr : Room k callerA) (hY : ∀ (w : World) (h : Heap), YP w h → (K w.params).In h)
    (F : ∀ (w : World) (mg : Str → Option Value) (fa : Addr) (h : Heap), (K w.params).In h → h.Ns mainGlobals mg → mg d.name = some (.ref fa) →
      ∃ fd : FuncData, (∀ (s : Shared) (u : Value), BindsTo s fd ⟨[u], []⟩ [(x, u)]) ∧
        ∀ base : Heap, (K w.params).In base → base.Ns mainGlobals mg → FnG l.prog w (K w.params) mg base k fa fd [x] (spF (fun ns : List Int => ns.length ≤ 1000) (fun ns => [dInts (K w.params) ns]) (fun _ => dV (.bl true)))) :
    PySem.W.WalkO q loose XP YP l.row.toRowW d [] (fun f vs => PySem.call f vs) := by
  refine Att.attach_call hn hdf fun w s₀ s₁ mg mb fa o pm cd doc a vs ns G Y ho hd hcd hmg hobj hints hlen hg => ?_
  obtain ⟨fd, hb, hF⟩ := F w mg fa _ (hY w _ Y) G.T.g hmg
  exact callG (hY w _ Y) G.T.g G.T.b G.T.builtins G.T.nolimit hg hobj hints hlen hn2 hr hF hb
end K65

/-! K65LV: the facts from the written part -/
namespace K65
open PySem PySem.Spec PyProof.Rows L2
section
variable {K : PySem.W.Frag} {h : Heap} {mg : Str → Option Value}
theorem fnF_mk (X : K.In h) (G : h.Ns mainGlobals mg) {x : Str} {i : Nat} {ps : List Str} {f : Addr} {oc kV doc pm cdv ct : Value} {od an : Option Addr} {osl : Array (Option Value)}
    (a : PySem.W.nsIn K mainGlobals x = some (some (.ref f))) (l : K.lookup f = some ⟨oc, od, .func (PySem.W.fnOf x x (C8.fnArgs (topS i)) (C8.fnBody (topS i)) (C8.fnScope (topS i)) .none kV doc pm an cdv ct), osl⟩) (c : PySem.W.codeIn K cdv x = true) (k : PySem.W.keepIn K (.ref f) = true)
    (hb : ∀ (kV doc pm : Value) (an : Option Addr) (cdv ct : Value) (us : List Value), us.length = ps.length → bindArgs (PySem.W.fnOf x x (C8.fnArgs (topS i)) (C8.fnBody (topS i)) (C8.fnScope (topS i)) .none kV doc pm an cdv ct) ⟨us, []⟩ = pure (ps.zip us)) : FnF K mg x i ps :=
  ⟨f, _, ⟨⟨⟨oc, od, .none, kV, doc, pm, an, cdv, ct, osl, rfl, l, c⟩⟩, PySem.W.mg_of X G a, k⟩, .all (hb kV doc pm an cdv ct)⟩
theorem splK_mk (X : K.In h) (G : h.Ns mainGlobals mg) {f : Addr} {oc kV doc pm cdv ct : Value} {od an : Option Addr} {osl : Array (Option Value)}
    (a : PySem.W.nsIn K mainGlobals "splitter_read" = some (some (.ref f))) (l : K.lookup f = some ⟨oc, od, .func (PySem.W.fnOf "splitter_read" "splitter_read" (C8.fnArgs (topS 56)) (C8.fnBody (topS 56)) (C8.fnScope (topS 56)) .none kV doc pm an cdv ct), osl⟩) (c : PySem.W.codeIn K cdv "splitter_read" = true) (k : PySem.W.keepIn K (.ref f) = true) : SplK K mg :=
  ⟨f, _, ⟨⟨⟨oc, od, .none, kV, doc, pm, an, cdv, ct, osl, rfl, l, c⟩⟩, PySem.W.mg_of X G a, k⟩, ⟨fun s us ws _ hl => match us, ws, hl with
    | [], [_, _, _, _], _ => .of_eq rfl, fun {vs us zs ws} r rz => by
    cases r with
    | nil => exact rz
    | cons _ _ => exact .nil⟩⟩
theorem tup_mk (X : K.In h) {a : Addr} {od : Option Addr} {its : Array Value} {n : Nat} {osl : Array (Option Value)} {vs : List V} {xs : List PyData} (l : K.lookup a = some ⟨.type "tuple", od, .seq its n, osl⟩) (hs : its.size ≤ 2) (hv : Vals vs its.toList) (ha : ∀ H, DpAll K H vs xs) : ∀ H, Dp K H (.ref a) (.tuple xs) :=
  fun H => .tup (.inr ⟨_, its, n, l, rfl, rfl, Nat.le_trans hs (by decide), hv⟩) (ha H)
theorem glob_mk (X : K.In h) (G : h.Ns mainGlobals mg) {x : Str} {a : Addr} {d : PyData} (e : PySem.W.nsIn K mainGlobals x = some (some (.ref a))) (q : ∀ H, Dp K H (.ref a) d) : ∃ a, mg x = some (.ref a) ∧ ∀ H, Dp K H (.ref a) d := ⟨a, PySem.W.mg_of X G e, q⟩
theorem law_mk (X : K.In h) (G : h.Ns mainGlobals mg) {f : Addr} {oc kV doc pm cdv ct : Value} {od an : Option Addr} {osl : Array (Option Value)}
    (a : PySem.W.nsIn K mainGlobals "law" = some (some (.ref f))) (l : K.lookup f = some ⟨oc, od, .func (PySem.W.fnOf "law" "law" (C8.fnArgs (topS 97)) (C8.fnBody (topS 97)) (C8.fnScope (topS 97)) .none kV doc pm an cdv ct), osl⟩) (c : PySem.W.codeIn K cdv "law" = true) (k : PySem.W.keepIn K (.ref f) = true) :
    ∃ f fd, C8.Def K mg "law" (topS 97) f fd ∧ ∀ (s : Shared) (u : Value), BindsTo s fd ⟨[u], []⟩ [("_law_script", u)] :=
  ⟨f, _, ⟨⟨⟨oc, od, .none, kV, doc, pm, an, cdv, ct, osl, rfl, l, c⟩⟩, PySem.W.mg_of X G a, k⟩, fun s u => .of_eq rfl⟩
end
end K65

namespace K65
/-! ### both runs of Euclid: of the parts, and of the parts over their common factor -/
def GAB (A B g : L) : Prop := (width g = 1 ∧ Hb 330 400 g ∧ Hb 410 550 A ∧ Hb 410 550 B) ∨ (width g = 2 ∧ Hb 170 235 g ∧ Hb 170 240 A ∧ Hb 170 240 B) ∨ (Hb 13 76 g ∧ Hb 0 0 A ∧ Hb 0 0 B)
structure Runs (one two A B g u v : L) : Prop where
  run : Eu one 1 0 two 0 1 A B g
  ne : g ≠ 0
  l : u * g = one
  r : v * g = two
  bez : A * u + B * v = 1
  run2 : Eu u 1 0 v 0 1 A B 1
  hg : GAB A B g
  wA : W 17 A
  wB : W 17 B
  wg : W 5 g
  hu : Hb 480 550 u
  hv : Hb 480 550 v
  wu : W 9 u
  wv : W 9 v
  dl : DqOk one g
  dr : DqOk two g
theorem div_by_one {u : L} (h : U0 u) : DivOk u 1 := by
  have hw := (start_w h.w (by omega)).2.2
  refine (dv_hw (g := 0) (f := 0) (m := width u) h.h hb_one (Nat.le_refl _) one_ne (by rw [width_one]; omega)).2.2 (by omega) (by omega)
theorem dq_of {p q : L} (hp : W 100 p) (hq : W 100 q) (h0 : q ≠ 0) (h : DivOk p q) : DqOk p q := ⟨hp.mono (by omega), hq.mono (by omega), h0, h⟩
theorem hb_neg {d e : Nat} {p : L} (h : Hb d e p) : Hb d e (- p) := by
  obtain ⟨m, h1, h2, h3⟩ := h
  refine ⟨m, h1, h2, fun k => ?_⟩
  obtain ⟨n, n1, n2⟩ := h3 k
  exact ⟨-n, by rw [co_neg, Rat.intCast_neg, n1]; grind, by rw [Int.natAbs_neg]; exact n2⟩
theorem rest_w {a : Int} {p q : L} (hp : W a p) (ha : 0 ≤ a) (hq : q ≠ 0) (hw : width q ≤ 3) : W (a + 1) (dv p q).2 := by
  have h1 := start_w hp ha
  have h2 := dv_in (p := p) hq
  exact In.mono h2 (by omega) (by omega)
theorem runs {one two : L} (h1 : Hb 13 76 one) (h2 : Hb 13 76 two) (w1 : W 4 one) (w2 : W 4 two) (wd : (width one ≤ 3 ∧ width two ≤ 3) ∨ (two = 0 ∧ width one ≤ 4)) (ne : one ≠ 0 ∨ two ≠ 0) :
    ∃ A B g u v, Runs one two A B g u v := by
  have u1 : U0 one := ⟨h1.mono (by omega) (by omega), w1.mono (by omega)⟩
  have u2 : U0 two := ⟨h2.mono (by omega) (by omega), w2.mono (by omega)⟩
  by_cases c0 : two = 0
  · -- nothing to be done
    subst c0
    have ne1 : one ≠ 0 := ne.elim id fun z => absurd rfl z
    have q1 := dv_hw (m := 1) h1 h1 (by omega) ne1 (Nat.le_refl _)
    have q0 := dv_hw (m := 0) (d := 0) (e := 0) (hb_zero : Hb 0 0 0) h1 (by omega) ne1 (by rw [width_zero]; have := width_pos ne1; omega)
    exact ⟨1, 0, one, 1, 0, {
      run := .stop
      ne := ne1
      l := by grind
      r := by grind
      bez := by grind
      run2 := .stop
      wA := w_one (by omega)
      wB := w_zero
      hg := .inr (.inr ⟨h1, hb_one, hb_zero⟩)
      wg := w1.mono (by omega)
      hu := hb_one
      hv := hb_zero
      wu := w_one (by omega)
      wv := w_zero
      dl := dq_of u1.w u1.w ne1 (q1.2.2 (by omega) (by omega))
      dr := dq_of w_zero u1.w ne1 (q0.2.2 (by omega) (by omega)) }⟩
  · have wd : width one ≤ 3 ∧ width two ≤ 3 := wd.elim id fun z => absurd z.1 c0
    have wt := width_pos c0
    have d3 := dv_hw (m := 3) h1 h2 (by omega) c0 (by omega)
    have qw1 : W 8 (dv one two).1 := (dv_quot_w w1 w2 (by omega) (by omega) c0)
    have qn1 : width (dv one two).1 ≤ 3 := dv_quot_width (by omega)
    have r2e := dv_sub one two
    have r2l := width_lt_rest (p := one) c0
    have r2w : W 5 (dv one two).2 := rest_w w1 (by omega) c0 wd.2
    have uq1 : U0 (dv one two).1 := ⟨d3.1.mono (by omega) (by omega), qw1.mono (by omega)⟩
    have ur2 : U0 (dv one two).2 := ⟨d3.2.1.mono (by omega) (by omega), r2w.mono (by omega)⟩
    have st1 : StOk one 1 0 two 0 1 := st_of u1 u0_one u0_zero u2 u0_zero u0_one uq1 (by omega) c0 (d3.2.2 (by omega) (by omega))
    have eA1 : (1 : L) - (dv one two).1 * 0 = 1 := by grind
    have eB1 : (0 : L) - (dv one two).1 * 1 = - (dv one two).1 := by grind
    have eq1 := dv_eq one two
    by_cases c1 : (dv one two).2 = 0
    · -- two divides one
      rw [c1] at eq1
      have ee : (dv one two).1 * two = one := by grind
      have q2 := dv_hw (m := 1) h2 h2 (by omega) c0 (Nat.le_refl _)
      refine ⟨0, 1, two, (dv one two).1, 1, {
        run := .step c0 st1 (by rw [r2e, c1]; exact .stop)
        ne := c0
        l := ee
        r := by grind
        bez := by grind
        run2 := ?_
        wA := w_zero
        wB := w_one (by omega)
        hg := .inr (.inr ⟨h2, hb_zero, hb_one⟩)
        wg := w2.mono (by omega)
        hu := d3.1.mono (by omega) (by omega)
        hv := hb_one
        wu := qw1.mono (by omega)
        wv := w_one (by omega)
        dl := dq_of u1.w u2.w c0 (d3.2.2 (by omega) (by omega))
        dr := dq_of u2.w u2.w c0 (q2.2.2 (by omega) (by omega)) }⟩
      have e1 := dv_one (dv one two).1
      have s2 : StOk (dv one two).1 1 0 1 0 1 := by
        refine st_of uq1 u0_one u0_zero u0_one u0_zero u0_one ?_ ?_ one_ne (div_by_one uq1)
        · rw [e1]; exact uq1
        · rw [e1]; show width (dv one two).1 ≤ 8; omega
      refine .step one_ne s2 ?_
      rw [dv_sub, e1]
      exact .stop
    · -- a rest
      have ne1 : one ≠ 0 := fun z => by
        subst z
        rw [dv_zero c0] at c1
        exact c1 rfl
      have w2p := width_pos c1
      have d2 := dv_hw (m := 2) h1 h2 (by omega) c0 (by omega)
      have hr2 := d2.2.1
      have ht3 := dv_hw (m := 3) h2 hr2 (by omega) c1 (by omega)
      have qw2 : W 9 (dv two (dv one two).2).1 := dv_quot_w w2 r2w (by omega) (by omega) c1
      have qn2 : width (dv two (dv one two).2).1 ≤ 3 := dv_quot_width (by omega)
      have r3e := dv_sub two (dv one two).2
      have r3l := width_lt_rest (p := two) c1
      have r3w : W 5 (dv two (dv one two).2).2 := rest_w w2 (by omega) c1 (by omega)
      have uq2 : U0 (dv two (dv one two).2).1 := ⟨ht3.1.mono (by omega) (by omega), qw2.mono (by omega)⟩
      have ur3 : U0 (dv two (dv one two).2).2 := ⟨ht3.2.1.mono (by omega) (by omega), r3w.mono (by omega)⟩
      have un1 : U0 (- (dv one two).1) := ⟨by
        have := hb_zero (d := 0) (e := 0)
        have h := this.sub d3.1
        have e0 : (0 : L) - (dv one two).1 = - (dv one two).1 := by grind
        rw [e0] at h
        exact h.mono (by omega) (by omega), uq1.w.neg⟩
      have st2 : StOk two 0 1 (dv one two).2 1 (- (dv one two).1) := st_of u2 u0_zero u0_one ur2 u0_one un1 uq2 (by omega) c1 (ht3.2.2 (by omega) (by omega))
      have eq2 := dv_eq two (dv one two).2
      by_cases c2 : (dv two (dv one two).2).2 = 0
      · -- the rest divides both
        rw [c2] at eq2
        generalize hg : (dv one two).2 = g at *
        generalize hq1 : (dv one two).1 = q1 at *
        generalize hq2 : (dv two g).1 = v at *
        have ev : v * g = two := by grind
        have eu : (q1 * v + 1) * g = one := by grind
        have vne : v ≠ 0 := fun z => c0 (by rw [← ev, z]; grind)
        have une : q1 * v + 1 ≠ 0 := fun z => ne1 (by rw [← eu, z]; grind)
        have gok : GAB 1 (- q1) g := by
          by_cases e1 : width g = 1
          · exact .inl ⟨e1, hr2.mono (by omega) (by omega), hb_one, (hb_neg d2.1).mono (by omega) (by omega)⟩
          · exact .inr (.inl ⟨by omega, hr2.mono (by omega) (by omega), hb_one, (hb_neg d2.1).mono (by omega) (by omega)⟩)
        have hu : Hb 480 550 (q1 * v + 1) := by
          by_cases e1 : width g = 1
          · exact (h1.single hr2 e1 eu).mono (by omega) (by omega)
          · have := dv_hw (m := 2) h1 hr2 (by omega) c1 (by omega)
            rw [dv_quot c1 eu] at this
            exact this.1.mono (by omega) (by omega)
        have hv : Hb 480 550 v := by
          by_cases e1 : width g = 1
          · exact (h2.single hr2 e1 ev).mono (by omega) (by omega)
          · have := dv_hw (m := 2) h2 hr2 (by omega) c1 (by omega)
            rw [dv_quot c1 ev] at this
            exact this.1.mono (by omega) (by omega)
        have wu : W 9 (q1 * v + 1) := (W.quot c1 w1 r2w eu).mono (by omega)
        have uu : U0 (q1 * v + 1) := ⟨hu.mono (by omega) (by omega), wu.mono (by omega)⟩
        have uv : U0 v := uq2
        have wlu := width_mul une c1
        have wlv := width_mul vne c1
        rw [eu] at wlu
        rw [ev] at wlv
        have sc := dv_scale c1 vne une
        have e1 : g * (q1 * v + 1) = one := by rw [L.mul_comm]; exact eu
        have e2 : g * v = two := by rw [L.mul_comm]; exact ev
        rw [e1, e2, hq1, hg] at sc
        have dg1 := dv_hw (m := 3) h1 hr2 (by omega) c1 (by omega)
        refine ⟨1, - q1, g, q1 * v + 1, v, {
          run := .step c0 st1 (by rw [hq1, r2e, eA1, eB1]; exact .step c1 st2 (by rw [hq2, r3e, c2]; exact .stop))
          ne := c1
          l := eu
          r := ev
          bez := by grind
          run2 := ?_
          wA := w_one (by omega)
          wB := (qw1.mono (by omega)).neg
          hg := gok
          wg := r2w.mono (by omega)
          hu := hu
          hv := hv
          wu := wu
          wv := qw2.mono (by omega)
          dl := dq_of u1.w ur2.w c1 (dg1.2.2 (by omega) (by omega))
          dr := dq_of u2.w ur2.w c1 (ht3.2.2 (by omega) (by omega)) }⟩
        have dd := dv_hw (m := 3) hu (hv.mono (d' := 480) (e' := 550) (by omega) (by omega)) (by omega) vne (by omega)
        have qe : (dv (q1 * v + 1) v).1 = q1 := sc.1.symm
        have s1 : StOk (q1 * v + 1) 1 0 v 0 1 := by
          refine st_of uu u0_one u0_zero uv u0_zero u0_one ?_ ?_ vne (dd.2.2 (by omega) (by omega))
          · rw [qe]; exact uq1
          · rw [qe]; omega
        refine .step vne s1 ?_
        rw [qe]
        have e3 : q1 * v + 1 - q1 * v = 1 := by grind
        rw [e3, eA1, eB1]
        have e4 := dv_one v
        have s2 : StOk v 0 1 1 1 (- q1) := by
          refine st_of uv u0_zero u0_one u0_one u0_one un1 ?_ ?_ one_ne (div_by_one uv)
          · rw [e4]; exact uv
          · rw [e4]; show width v ≤ 8; omega
        refine .step one_ne s2 ?_
        rw [dv_sub, e4]
        exact .stop
      · -- a second rest, of one number alone
        have w3p := width_pos c2
        have d1 := dv_hw (m := 1) h1 h2 (by omega) c0 (by omega)
        have hq1' := d1.1
        have hr2' := d1.2.1
        have t2 := dv_hw (m := 2) h2 hr2' (by omega) c1 (by omega)
        have hq2' := t2.1
        have hr3' := t2.2.1
        have t3 := dv_hw (m := 2) hr2' hr3' (by omega) c2 (by omega)
        have qw3 : W 10 (dv (dv one two).2 (dv two (dv one two).2).2).1 := dv_quot_w r2w r3w (by omega) (by omega) c2
        have qn3 : width (dv (dv one two).2 (dv two (dv one two).2).2).1 ≤ 2 := dv_quot_width (by omega)
        have r4e := dv_sub (dv one two).2 (dv two (dv one two).2).2
        have r4l := width_lt_rest (p := (dv one two).2) c2
        have r4z : (dv (dv one two).2 (dv two (dv one two).2).2).2 = 0 := width_zero_iff (by omega)
        have eq3 := dv_eq (dv one two).2 (dv two (dv one two).2).2
        rw [r4z] at eq3
        generalize hrr : (dv one two).2 = r2 at *
        generalize hq1 : (dv one two).1 = q1 at *
        generalize hq2 : (dv two r2).1 = q2 at *
        generalize hg : (dv two r2).2 = g at *
        generalize hq3 : (dv r2 g).1 = q3 at *
        have e3 : q3 * g = r2 := by grind
        have ev : (q2 * q3 + 1) * g = two := by grind
        have eu : (q1 * (q2 * q3 + 1) + q3) * g = one := by grind
        generalize hv' : q2 * q3 + 1 = v at *
        generalize hu' : q1 * v + q3 = u at *
        have vne : v ≠ 0 := fun z => c0 (by rw [← ev, z]; grind)
        have une : u ≠ 0 := fun z => ne1 (by rw [← eu, z]; grind)
        have q3ne : q3 ≠ 0 := fun z => c1 (by rw [← e3, z]; grind)
        have wg1 : width g = 1 := by omega
        have hu := h1.single hr3' wg1 eu
        have hv := h2.single hr3' wg1 ev
        have h3 := hr2'.single hr3' wg1 e3
        have wu : W 9 u := (W.quot c2 w1 r3w eu).mono (by omega)
        have wv : W 9 v := (W.quot c2 w2 r3w ev).mono (by omega)
        have uu : U0 u := ⟨hu.mono (by omega) (by omega), wu.mono (by omega)⟩
        have uv : U0 v := ⟨hv.mono (by omega) (by omega), wv.mono (by omega)⟩
        have uq3 : U0 q3 := ⟨h3.mono (by omega) (by omega), qw3.mono (by omega)⟩
        have wlu := width_mul une c2
        have wlv := width_mul vne c2
        have wl3 := width_mul q3ne c2
        rw [eu] at wlu
        rw [ev] at wlv
        rw [e3] at wl3
        have eA2 : (0 : L) - q2 * 1 = - q2 := by grind
        have eB2 : (1 : L) - q2 * (- q1) = 1 + q2 * q1 := by grind
        have hA : Hb 410 550 (- q2) := (hb_neg hq2').mono (by omega) (by omega)
        have hB : Hb 410 550 (1 + q2 * q1) := by
          have hp := hq1'.prod hq2' (w := 0) (by
            have : width q1 ≤ 1 := by
              rw [← hq1]
              exact dv_quot_width (by omega)
            omega)
          rw [L.mul_comm] at hp
          exact ((hb_one (d := 0) (e := 0)).add hp).mono (by omega) (by omega)
        have wA : W 17 (- q2) := (qw2.mono (by omega)).neg
        have wB : W 17 (1 + q2 * q1) := (w_one (by omega)).add ((qw2.mul qw1).mono (by omega))
        have uA : U0 (- q2) := ⟨hA.mono (by omega) (by omega), wA.mono (by omega)⟩
        have uB : U0 (1 + q2 * q1) := ⟨hB.mono (by omega) (by omega), wB.mono (by omega)⟩
        have st3 : StOk r2 1 (- q1) g (- q2) (1 + q2 * q1) := by
          refine st_of ur2 u0_one un1 ur3 uA uB ?_ ?_ c2 (t3.2.2 (by omega) (by omega))
          · rw [hq3]; exact uq3
          · rw [hq3]; omega
        have dg1 := dv_hw (m := 3) h1 hr3' (by omega) c2 (by omega)
        have dg2 := dv_hw (m := 3) h2 hr3' (by omega) c2 (by omega)
        refine ⟨- q2, 1 + q2 * q1, g, u, v, {
          run := .step c0 st1 (by rw [hq1, r2e, eA1, eB1]; exact .step c1 st2 (by rw [hq2, r3e, eA2, eB2]; exact .step c2 st3 (by rw [hq3, r4e, r4z]; exact .stop)))
          ne := c2
          l := eu
          r := ev
          bez := by grind
          run2 := ?_
          wA := wA
          wB := wB
          hg := .inl ⟨wg1, hr3'.mono (by omega) (by omega), hA, hB⟩
          wg := r3w
          hu := hu.mono (by omega) (by omega)
          hv := hv.mono (by omega) (by omega)
          wu := wu
          wv := wv
          dl := dq_of u1.w ur3.w c2 (dg1.2.2 (by omega) (by omega))
          dr := dq_of u2.w ur3.w c2 (dg2.2.2 (by omega) (by omega)) }⟩
        have sc := dv_scale c2 vne une
        have x1 : g * u = one := by rw [L.mul_comm]; exact eu
        have x2 : g * v = two := by rw [L.mul_comm]; exact ev
        have x3 : g * q3 = r2 := by rw [L.mul_comm]; exact e3
        rw [x1, x2, hq1, hrr] at sc
        have sc2 := dv_scale c2 q3ne vne
        rw [x2, x3, hq2, hg] at sc2
        have dd1 := dv_hw (m := 3) hu (hv.mono (d' := 600) (e' := 600) (by omega) (by omega)) (by omega) vne (by omega)
        have dd2 := dv_hw (m := 2) hv (h3.mono (d' := 800) (e' := 800) (by omega) (by omega)) (by omega) q3ne (by omega)
        have qe1 : (dv u v).1 = q1 := sc.1.symm
        have qe2 : (dv v q3).1 = q2 := sc2.1.symm
        have s1 : StOk u 1 0 v 0 1 := by
          refine st_of uu u0_one u0_zero uv u0_zero u0_one ?_ ?_ vne (dd1.2.2 (by omega) (by omega))
          · rw [qe1]; exact uq1
          · rw [qe1]; omega
        refine .step vne s1 ?_
        rw [qe1]
        have y1 : u - q1 * v = q3 := by grind
        rw [y1, eA1, eB1]
        have s2 : StOk v 0 1 q3 1 (- q1) := by
          refine st_of uv u0_zero u0_one uq3 u0_one un1 ?_ ?_ q3ne (dd2.2.2 (by omega) (by omega))
          · rw [qe2]; exact uq2
          · rw [qe2]; omega
        refine .step q3ne s2 ?_
        rw [qe2]
        have y2 : v - q2 * q3 = 1 := by grind
        rw [y2, eA2, eB2]
        have e4 := dv_one q3
        have s3 : StOk q3 1 (- q1) 1 (- q2) (1 + q2 * q1) := by
          refine st_of uq3 u0_one un1 u0_one uA uB ?_ ?_ one_ne (div_by_one uq3)
          · rw [e4]; exact uq3
          · rw [e4]; show width q3 ≤ 8; omega
        refine .step one_ne s3 ?_
        rw [dv_sub, e4]
        exact .stop
end K65

/-! K65MA: sizes of rows -/
namespace K65
/-! ### sizes -/
structure Sz (d e a n : Nat) (p : L) : Prop where
  hb : Hb d e p
  w : W (a : Int) p
  n : width p ≤ n
theorem Sz.mono {d e a n d' e' a' n' : Nat} {p : L} (h : Sz d e a n p) (hd : d ≤ d') (he : e ≤ e') (ha : a ≤ a') (hn : n ≤ n') : Sz d' e' a' n' p := ⟨h.hb.mono hd he, h.w.mono (by omega), Nat.le_trans h.n hn⟩
theorem sz_zero {d e a n : Nat} : Sz d e a n 0 := ⟨hb_zero, w_zero, by rw [width_zero]; omega⟩
theorem sz_one {d e a n : Nat} (hn : 1 ≤ n) : Sz d e a n 1 := ⟨hb_one, w_one (by omega), by rw [width_one]; exact hn⟩
theorem width_w {a : Nat} {p : L} (h : W (a : Int) p) : width p ≤ 2 * a + 1 := by
  have := width_in h (by omega)
  omega
theorem width_mul_le (p q : L) : width (p * q) ≤ width p + width q - 1 := by
  by_cases e : p = 0
  · have : p * q = 0 := by rw [e]; grind
    rw [this, width_zero]
    omega
  · by_cases e2 : q = 0
    · have : p * q = 0 := by rw [e2]; grind
      rw [this, width_zero]
      omega
    · have := width_mul e e2
      omega
theorem Sz.mul {d e a n d' e' a' n' w : Nat} {p q : L} (h : Sz d e a n p) (h' : Sz d' e' a' n' q) (hw : n ≤ 2 ^ w) : Sz (d + d') (e + e' + w) (a + a') (n + n' - 1) (p * q) :=
  ⟨h.hb.prod h'.hb (Nat.le_trans h.n hw), (h.w.mul h'.w).mono (by omega), by
    have := width_mul_le p q
    have := h.n
    have := h'.n
    by_cases e : width p = 0
    · rw [width_zero_iff e]
      have : (0 : L) * q = 0 := by grind
      rw [this, width_zero]
      omega
    · omega⟩
theorem Sz.sub {d e a n d' e' a' n' : Nat} {p q : L} (h : Sz d e a n p) (h' : Sz d' e' a' n' q) : Sz (d + d') (max (e + d') (e' + d) + 1) (max a a') (2 * max a a' + 1) (p - q) := by
  have w : W ((max a a' : Nat) : Int) (p - q) := (h.w.mono (by omega)).sub (h'.w.mono (by omega))
  exact ⟨h.hb.sub h'.hb, w, width_w w⟩
theorem Sz.add {d e a n d' e' a' n' : Nat} {p q : L} (h : Sz d e a n p) (h' : Sz d' e' a' n' q) : Sz (d + d') (max (e + d') (e' + d) + 1) (max a a') (2 * max a a' + 1) (p + q) := by
  have w : W ((max a a' : Nat) : Int) (p + q) := (h.w.mono (by omega)).add (h'.w.mono (by omega))
  exact ⟨h.hb.add h'.hb, w, width_w w⟩
theorem Hb.even {d e : Nat} {p : L} (h : Hb d e p) : Hb d e (even p) := by
  obtain ⟨m, h1, h2⟩ := h
  exact ⟨m, h1, h2.even⟩
theorem Hb.odd {d e : Nat} {p : L} (h : Hb d e p) : Hb d e (odd p) := by
  obtain ⟨m, h1, h2⟩ := h
  exact ⟨m, h1, h2.odd⟩
theorem Hb.later {d e : Nat} {p : L} (h : Hb d e p) (n : Int) : Hb d e (later n p) := by
  obtain ⟨m, h1, h2⟩ := h
  exact ⟨m, h1, h2.later n⟩
theorem in_of_width {p : L} (hp : p ≠ 0) : ∃ s : Int, In s (s + width p) p := by
  obtain ⟨n, tn⟩ := exists_top hp
  obtain ⟨m, bm⟩ := exists_bot hp
  have := bm.le_top tn
  refine ⟨m, fun k hk => ?_⟩
  rw [width_eq tn bm]
  have := tn.2 k hk
  have := bm.2 k hk
  omega
theorem width_even (p : L) : width (even p) ≤ (width p + 1) / 2 := by
  by_cases e : p = 0
  · rw [e, even_zero, width_zero]
    omega
  · obtain ⟨s, hs⟩ := in_of_width e
    have h : In ((s + 1) / 2) ((s + width p + 1) / 2) (even p) := fun k hk => by
      rw [co_even] at hk
      have := hs _ hk
      omega
    have := width_in h (by omega)
    omega
theorem width_odd (p : L) : width (odd p) ≤ (width p + 1) / 2 := by
  by_cases e : p = 0
  · rw [e, odd_zero, width_zero]
    omega
  · obtain ⟨s, hs⟩ := in_of_width e
    have h : In (s / 2) ((s + width p) / 2) (odd p) := fun k hk => by
      rw [co_odd] at hk
      have := hs _ hk
      omega
    have := width_in h (by omega)
    omega
theorem Sz.even {d e a n : Nat} {p : L} (h : Sz d e a n p) : Sz d e (a / 2) ((n + 1) / 2) (even p) := ⟨h.hb.even, fun k hk => by
  rw [co_even] at hk
  have := h.w _ hk
  omega, by
  have := width_even p
  have := h.n
  omega⟩
theorem Sz.odd {d e a n : Nat} {p : L} (h : Sz d e a n p) : Sz d e ((a + 1) / 2) ((n + 1) / 2) (odd p) := ⟨h.hb.odd, fun k hk => by
  rw [co_odd] at hk
  have := h.w _ hk
  omega, by
  have := width_odd p
  have := h.n
  omega⟩
theorem width_spread1 {p : L} : width (spread p) ≤ 2 * width p - 1 := by
  by_cases e : p = 0
  · rw [e, spread_zero, width_zero]
    omega
  · obtain ⟨n, tn⟩ := exists_top e
    obtain ⟨m, bm⟩ := exists_bot e
    have := bm.le_top tn
    have hin : In (2 * m) (2 * n + 1) (spread p) := fun k hk => by
      rw [co_spread] at hk
      split at hk
      · have := tn.2 _ hk
        have := bm.2 _ hk
        omega
      · exact absurd rfl hk
    have := width_in hin (by omega)
    rw [width_eq tn bm]
    omega
theorem Sz.spread {d e a n : Nat} {p : L} (h : Sz d e a n p) : Sz d e (2 * a) (2 * n - 1) (spread p) := ⟨h.hb.spread, (w_spread h.w).mono (by omega), by
  have := @width_spread1 p
  have := h.n
  omega⟩
theorem Sz.sm {d e a n : Nat} {p : L} (h : Sz d e a n p) (h1 : d ≤ 6500) (h2 : e ≤ 6500) : SmL p := h.hb.sm h1 h2
theorem pr_sz {d e a n d' e' a' n' : Nat} (w : Nat) {p q : L} (h : Sz d e a n p) (h' : Sz d' e' a' n' q) (hw : n ≤ 2 ^ w) (h1 : d + d' ≤ 6500) (h2 : e + e' + w + 1 ≤ 6500) (ha : a ≤ 200) (ha' : a' ≤ 200) : PrOk p q :=
  ⟨h.w.mono (by omega), h'.w.mono (by omega), d, e, d', e', w, h.hb, h'.hb, Nat.le_trans h.n hw, h1, h2⟩
theorem tm_sz {d e a n d' e' a' n' : Nat} (w : Nat) {p q : L} (h : Sz d e a n p) (h' : Sz d' e' a' n' q) (hw : n ≤ 2 ^ w) (h1 : d + d' ≤ 6500) (h2 : e + e' + w + 1 ≤ 6500) (ha : a ≤ 200) (ha' : a' ≤ 200) (hm : n * n' ≤ 1000) : TmOk p q :=
  ⟨pr_sz w h h' hw h1 h2 ha ha', Nat.le_trans (Nat.mul_le_mul h.n h'.n) hm⟩
theorem sb_sz {d e a n d' e' a' n' : Nat} {p q : L} (h : Sz d e a n p) (h' : Sz d' e' a' n' q) (h1 : d ≤ 6500) (h2 : e ≤ 6500) (h3 : d' ≤ 6500) (h4 : e' ≤ 6500) (ha : a ≤ 400) (ha' : a' ≤ 400) : SbOk p q :=
  ⟨h.w.mono (by omega), h'.w.mono (by omega), h.sm h1 h2, h'.sm h3 h4⟩
theorem ls_sz {d e a n d' e' a' n' : Nat} {p q : L} (h : Sz d e a n p) (h' : Sz d' e' a' n' q) (h1 : d ≤ 6500) (h2 : e ≤ 6500) (h3 : d' ≤ 6500) (h4 : e' ≤ 6500) (ha : a ≤ 200) (ha' : a' ≤ 200) : LsOk p q :=
  ⟨h.sm h1 h2, h'.sm h3 h4, h.w.mono (by omega), h'.w.mono (by omega)⟩
/-! ### what is drawn -/
theorem near_sz {n : Nat} {p : L} (h : NearOk (n : Int) p) (hn : 2 ≤ n) : Sz 7 37 n n p := by
  obtain ⟨⟨s, s1, s2, s3⟩, hh⟩ := h
  refine ⟨⟨84, by decide, hh⟩, fun k hk => ?_, ?_⟩
  · have := s3 k hk
    omega
  · have := width_in s3 (by omega)
    omega
theorem near4 {p : L} (h : NearOk 4 p) : Sz 7 37 4 4 p := near_sz (n := 4) h (by decide)
theorem near3 {p : L} (h : NearOk 3 p) : Sz 7 37 3 3 p := near_sz (n := 3) h (by decide)
theorem near2 {p : L} (h : NearOk 2 p) : Sz 7 37 2 2 p := near_sz (n := 2) h (by decide)
theorem fil_sz {f : L} (h : FilOk f) : Sz 7 37 4 4 f := by
  rcases h with rfl | h
  · exact sz_zero
  · exact near4 h
/-- a row and its parts -/
structure Par (a : L) : Prop where
  s : Sz 13 76 8 7 a
  e : Sz 13 76 4 4 (even a)
  o : Sz 13 76 4 4 (odd a)
  wd : (width (even a) ≤ 3 ∧ width (odd a) ≤ 3) ∨ (odd a = 0 ∧ width (even a) ≤ 4)
theorem hb_times {p s : L} (hp : NearOk 4 p) (hs : NearOk 2 s) : Hb 13 76 (p * spread s) := ⟨84 * 84, by decide, hp.2.prod (w := 2) hs.2.spread (near4 hp).n⟩
theorem row_par {a : L} (h : RowOk a) : Par a := by
  have key : Sz 13 76 8 7 a → ((width (even a) ≤ 3 ∧ width (odd a) ≤ 3) ∨ (odd a = 0 ∧ width (even a) ≤ 4)) → Par a := fun s w => ⟨s, s.even, s.odd, w⟩
  rcases h with h | rfl | ⟨p, hp, rfl⟩ | ⟨p, s, hp, hs, rfl⟩
  · have s := near4 h
    have := s.even.n
    have := s.odd.n
    exact key (s.mono (by omega) (by omega) (by omega) (by omega)) (.inl ⟨by omega, by omega⟩)
  · exact key sz_zero (.inl ⟨by rw [even_zero, width_zero]; omega, by rw [odd_zero, width_zero]; omega⟩)
  · have s := near4 hp
    exact key (s.spread.mono (by omega) (by omega) (by omega) (by omega)) (.inr ⟨odd_spread p, by rw [even_spread]; exact s.n⟩)
  · have h1 := near4 hp
    have h2 := near2 hs
    have h3 := h1.mul h2.spread (w := 2) (by omega)
    refine key ⟨hb_times hp hs, h3.w.mono (by omega), Nat.le_trans h3.n (by omega)⟩ (.inl ⟨?_, ?_⟩)
    · rw [even_mul_spread]
      exact Nat.le_trans (h1.even.mul h2 (w := 1) (by omega)).n (by omega)
    · rw [odd_mul_spread]
      exact Nat.le_trans (h1.odd.mul h2 (w := 1) (by omega)).n (by omega)
theorem chan_sz {d e a n d' e' a' n' : Nat} (w : Nat) {f x : L} (h : Sz d e a n f) (h' : Sz d' e' a' n' x) (hw : n ≤ 2 ^ w) : Sz (d + d') (e + e' + w) ((a + a') / 2) ((n + n' - 1 + 1) / 2) (chan f x) := (h.mul h' hw).even
/-- one number more -/
theorem chg_sz {d e a n : Nat} {x x' : L} (h : Sz d e a n x) (hc : ChgOk x x') (ha : 0 < a) (hn : 0 < n) : Sz (d + 7) (max (e + 7) (37 + d) + 1) (a + 1) (n + 1) x' := by
  obtain ⟨k, q, ⟨hq0, z, z1, z2⟩, rfl, hk⟩ := hc
  have hm : Hb 7 37 (mono k q) := ⟨84, by decide, hw_mono (by decide) z1 z2⟩
  have key : ∀ s t : Int, In s t x → s ≤ t → s - 1 ≤ k → k ≤ t → In (s - 1) t (x + mono k q) ∨ In s (t + 1) (x + mono k q) := fun s t h1 h2 h3 h4 => by
    have co : ∀ j, (x + mono k q).co j ≠ 0 → x.co j ≠ 0 ∨ j = k := fun j hj => by
      rw [co_add, co_mono] at hj
      by_cases e : k = j
      · exact .inr e.symm
      · rw [if_neg e] at hj
        exact .inl fun z => hj (by rw [z]; grind)
    by_cases e : k < t
    · refine .inl fun j hj => ?_
      rcases co j hj with z | z
      · have := h1 j z
        omega
      · omega
    · refine .inr fun j hj => ?_
      rcases co j hj with z | z
      · have := h1 j z
        omega
      · omega
  have hw : W ((a + 1 : Nat) : Int) (x + mono k q) ∧ width (x + mono k q) ≤ n + 1 := by
    rcases hk with ⟨h0, j, hj, j1, j2⟩ | ⟨h0, j1, j2⟩
    · refine ⟨fun i hi => ?_, ?_⟩
      · rw [co_add, co_mono] at hi
        have wj := h.w j hj
        by_cases e : k = i
        · omega
        · rw [if_neg e] at hi
          have := h.w i fun z => hi (by rw [z]; grind)
          omega
      · obtain ⟨s, hs⟩ := in_of_width h0
        have ij := hs j hj
        have := h.n
        rcases key s (s + width x) hs (by omega) (by omega) (by omega) with g | g
        · have := width_in g (by omega)
          omega
        · have := width_in g (by omega)
          omega
    · subst h0
      refine ⟨fun i hi => ?_, ?_⟩
      · rw [co_add, co_zero, co_mono] at hi
        by_cases e : k = i
        · omega
        · rw [if_neg e] at hi
          exact absurd (by grind) hi
      · have : (0 : L) + mono k q = mono k q := by grind
        rw [this]
        have g : In k (k + 1) (mono k q) := fun i hi => by
          rw [co_mono] at hi
          by_cases e : k = i
          · omega
          · rw [if_neg e] at hi
            exact absurd rfl hi
        have := width_in g (by omega)
        omega
  exact ⟨h.hb.add hm, hw.1, hw.2⟩
theorem ent_sz {x x' : L} (h : Sz 20 115 6 5 x) (hc : ChEnt x x') : Sz 27 123 7 6 x' := by
  rcases hc with rfl | hc | hc
  · exact h.mono (by omega) (by omega) (by omega) (by omega)
  · exact (chg_sz h hc (by omega) (by omega)).mono (by omega) (by omega) (by omega) (by omega)
  · exact (near3 hc).mono (by omega) (by omega) (by omega) (by omega)
theorem ent_sz4 {x x' : L} (h : Sz 14 76 4 4 x) (hc : ChEnt x x') : Sz 21 84 5 5 x' := by
  rcases hc with rfl | hc | hc
  · exact h.mono (by omega) (by omega) (by omega) (by omega)
  · exact (chg_sz h hc (by omega) (by omega)).mono (by omega) (by omega) (by omega) (by omega)
  · exact (near3 hc).mono (by omega) (by omega) (by omega) (by omega)
theorem ch_sz {f a : L} (hf : FilOk f) (ha : RowOk a) : Sz 20 115 6 5 (chan f a) := (chan_sz 2 (fil_sz hf) (row_par ha).s (by omega)).mono (by omega) (by omega) (by omega) (by omega)
theorem ch_sz4 {f a : L} (hf : FilOk f) (ha : NearOk 4 a) : Sz 14 76 4 4 (chan f a) := (chan_sz 2 (fil_sz hf) (near4 ha) (by omega)).mono (by omega) (by omega) (by omega) (by omega)
theorem m_tm {f a : L} (hf : FilOk f) (ha : RowOk a) : TmOk f a := tm_sz 2 (fil_sz hf) (row_par ha).s (by omega) (by omega) (by omega) (by omega) (by omega) (by omega)
theorem m_ent {f a : L} (hf : FilOk f) (ha : RowOk a) : SmL (chan f a) ∧ W 100 (chan f a) := ⟨(ch_sz hf ha).sm (by omega) (by omega), (ch_sz hf ha).w.mono (by omega)⟩
end K65

/-! K65MB: divisions: the program's, the law's; the law's Euclid -/
namespace K65
/-! ### the program's quotient -/
theorem quo_some {p q c : L} (hq : q ≠ 0) (h : c * q = p) : quo p q = some c := by
  unfold quo
  rw [if_pos (isZ_iff.mpr ((dv_rest hq).mpr ⟨c, h⟩)), dv_quot hq h]
theorem quo_mul {p q c : L} (h : quo p q = some c) : c * q = p := by
  unfold quo at h
  split at h
  · rename_i z
    have e := dv_eq p q
    rw [isZ_iff.mp z] at e
    cases h
    have e2 : (dv p q).1 * q + 0 = (dv p q).1 * q := by grind
    exact (e.trans e2).symm
  · cases h
theorem dq_sz {d e a n d' e' a' n' : Nat} (m : Nat) {p q : L} (h : Sz d e a n p) (h' : Sz d' e' a' n' q) (hde : d' ≤ e') (hq : q ≠ 0) (hm : n + 1 ≤ width q + m) (h1 : d + m * e' + e' ≤ 6500) (h2 : e + m * (e' + 1) + e' ≤ 6500) (ha : a ≤ 200) (ha' : a' ≤ 200) : DqOk p q :=
  ⟨h.w.mono (by omega), h'.w.mono (by omega), hq, (dv_hw (m := m) h.hb h'.hb hde hq (by have := h.n; omega)).2.2 h1 h2⟩
/-- an exact quotient -/
theorem quot_sz {d e a n d' e' a' n' : Nat} (m : Nat) {p q c : L} (h : Sz d e a n p) (h' : Sz d' e' a' n' q) (hde : d' ≤ e') (hq : q ≠ 0) (hm : n + 1 ≤ width q + m) (hc : c * q = p) : Sz (d + m * e') (e + m * (e' + 2)) (a + a') m c := by
  have h1 := (dv_hw (m := m) h.hb h'.hb hde hq (by have := h.n; omega)).1
  rw [dv_quot hq hc] at h1
  refine ⟨h1, (W.quot hq h.w h'.w hc).mono (by omega), ?_⟩
  have := dv_quot_width (p := p) (q := q) (m := m) (by have := h.n; omega)
  rw [dv_quot hq hc] at this
  exact this
/-! ### the law's division -/
theorem topO_eq {p : L} {n : Int} (h : Top p n) : topO p = n := (top_O h.ne).uniq h
theorem botO_eq {p : L} {n : Int} (h : Bot p n) : botO p = n := (bot_O h.ne).uniq h
theorem sz_mono_w {k : Int} {c : Rat} {a : Nat} (h1 : -(a : Int) ≤ k) (h2 : k ≤ a) : W (a : Int) (mono k c) := fun j hj => by
  rw [co_mono] at hj
  by_cases e : k = j
  · omega
  · rw [if_neg e] at hj
    exact absurd rfl hj
theorem width_mono1 {k : Int} {c : Rat} : width (mono k c) ≤ 1 := by
  have g : In k (k + 1) (mono k c) := fun i hi => by
    rw [co_mono] at hi
    by_cases e : k = i
    · omega
    · rw [if_neg e] at hi
      exact absurd rfl hi
  have := width_in g (by omega)
  omega
theorem pt_ex {q : L} (hq0 : q ≠ 0) {g f b nq : Nat} (hq : Sz g f b nq q) (hgf : g ≤ f) (hb : b ≤ 90) : ∀ (N : Nat) (l F : L) (d e a n : Nat), Sz d e a n l → a ≤ 90 → n + 1 ≤ width q + N → d + N * f + 2 * f ≤ 6500 → e + N * (f + 1) + 2 * f + 2 ≤ 6500 →
    (l ≠ 0 → ∀ k, F.co k ≠ 0 → topO l - topO q < k) → ∃ (m : Nat) (F' l' : L), m ≤ N ∧ Pt q m l F F' l' ∧ Hb (d + N * f) (e + N * (f + 1)) l' ∧ W (a : Int) l' ∧ F' * q + l' = F * q + l ∧ (l' = 0 ∨ width l' < width q) := by
  intro N
  induction N with
  | zero =>
    intro l F d e a n hl ha hn h1 h2 hF
    have := hl.n
    exact ⟨0, F, l, Nat.le_refl _, .stop (.inr (by omega)), hl.hb.mono (by omega) (by omega), hl.w, rfl, .inr (by omega)⟩
  | succ N ih =>
    intro l F d e a n hl ha hn h1 h2 hF
    have x1 : (N + 1) * f = N * f + f := Nat.succ_mul _ _
    have x2 : (N + 1) * (f + 1) = N * (f + 1) + (f + 1) := Nat.succ_mul _ _
    by_cases c0 : l = 0 ∨ width l < width q
    · exact ⟨0, F, l, Nat.zero_le _, .stop c0, hl.hb.mono (by omega) (by omega), hl.w, rfl, c0⟩
    · have l0 : l ≠ 0 := fun z => c0 (.inl z)
      have lw : width q ≤ width l := Nat.le_of_not_lt fun z => c0 (.inr z)
      have tl := top_O l0
      have bl := bot_O l0
      have tq := top_O hq0
      have bq := bot_O hq0
      have wl := width_O l0
      have wq := width_O hq0
      have htl := hl.w _ tl.1
      have hbl := hl.w _ bl.1
      have htq := hq.w _ tq.1
      have hbq := hq.w _ bq.1
      have hln := hl.n
      have lp := width_pos l0
      have qp := width_pos hq0
      have hin := step_in (m := 0) (A := botO l) (l := l) (s0 := topO l - topO q) tq bq (by omega) (fun k hk => by
        have := tl.2 k hk
        have := bl.2 k hk
        omega)
      have e1 : topO q + (topO l - topO q) + ((0 : Nat) : Int) = topO l := by omega
      have e2 : topO l - topO q + ((0 : Nat) : Int) = topO l - topO q := by omega
      rw [e1, e2] at hin
      obtain ⟨lam, u1, u2⟩ := hl.hb
      obtain ⟨mu, v1, v2⟩ := hq.hb
      have hmu : mu ≤ 2 ^ f := Nat.le_trans v1 (Nat.pow_le_pow_right (by decide) hgf)
      obtain ⟨z, z1, z2⟩ := v2.2 (topO q)
      obtain ⟨b0, b1, b2, b3⟩ := hw_step (s := topO l - topO q) u2 v2 hmu tq.1 z.natAbs ⟨z, z1, rfl⟩
      have e3 : topO q + (topO l - topO q) = topO l := by omega
      rw [e3] at b2 b3
      have hlb : lam * z.natAbs ≤ 2 ^ (d + f) := pow_mul_le u1 b1
      have sl2 : Sz (d + f) (e + f + 1) a (n - 1) (l - mono (topO l - topO q) (l.co (topO l) / q.co (topO q)) * q) := by
        refine ⟨⟨_, hlb, b2⟩, fun k hk => ?_, ?_⟩
        · have := hin k hk
          omega
        · have := width_in hin (by omega)
          omega
      have sm1 : Sz (d + f) (e + f) (a + b) 1 (mono (topO l - topO q) (l.co (topO l) / q.co (topO q))) :=
        ⟨⟨_, hlb, b3⟩, sz_mono_w (by omega) (by omega), width_mono1⟩
      have hqw := width_w hq.w
      have hq' : Sz g f b (2 * b + 1) q := ⟨hq.hb, hq.w, hqw⟩
      have smq := sm1.mul hq' (w := 0) (by decide)
      have hmq : Sz (d + f + g) (e + f + f + 0) a (2 * b + 1) (mono (topO l - topO q) (l.co (topO l) / q.co (topO q)) * q) := ⟨smq.hb, fun k hk => by
        rw [co_mono_mul] at hk
        have hk2 : q.co (k - (topO l - topO q)) ≠ 0 := fun z => hk (by rw [z]; grind)
        have := tq.2 _ hk2
        have := bq.2 _ hk2
        omega, Nat.le_trans smq.n (by omega)⟩
      obtain ⟨m, F', l', k1, k2, k3, k4, k5, k6⟩ := ih _ (F + mono (topO l - topO q) (l.co (topO l) / q.co (topO q))) (d + f) (e + f + 1) a (n - 1) sl2 ha (by have := width_pos hq0; omega) (by omega) (by omega) (fun h0 k hk => by
        have t2 := hin _ (top_O h0).1
        rw [co_add, co_mono] at hk
        by_cases y : topO l - topO q = k
        · omega
        · rw [if_neg y] at hk
          have := hF l0 k fun w => hk (by rw [w]; grind)
          omega)
      refine ⟨m + 1, F', l', by omega, .step l0 lw (hl.sm (by omega) (by omega)) ?_ ?_ ?_ ?_ k2, k3.mono (by omega) (by omega), k4, ?_, k6⟩
      · apply Classical.byContradiction
        intro y
        have := hF l0 _ y
        omega
      · exact tm_sz 0 sm1 hq' (by decide) (by omega) (by omega) (by omega) (by omega) (by omega)
      · exact ls_sz hl hmq (by omega) (by omega) (by omega) (by omega) (by omega) (by omega)
      · exact hq.sm (by omega) (by omega) _
      · rw [k5]
        grind
theorem narrow_w {c q : L} (h : c * q = 0 ∨ width (c * q) < width q) (hq : q ≠ 0) : c = 0 := Classical.byContradiction fun e => by
  rcases h with h | h
  · exact mul_ne e hq h
  · have := width_mul e hq
    have := width_pos e
    omega
theorem dq_ex {d e a n g f b nq : Nat} (N : Nat) {p q : L} (hp : Sz d e a n p) (hq : Sz g f b nq q) (hq0 : q ≠ 0) (hgf : g ≤ f) (ha : a ≤ 90) (hb : b ≤ 90) (hn : n + 1 ≤ width q + N) (hN : N ≤ 1000) (h1 : d + N * f + 2 * f ≤ 6500) (h2 : e + N * (f + 1) + 2 * f + 2 ≤ 6500) :
    ∃ F l, Dq p q F l ∧ p = F * q + l ∧ (l = 0 ∨ width l < width q) ∧ Hb (d + N * f) (e + N * (f + 1)) l ∧ W (a : Int) l ∧ (l = 0 ↔ Dvd q p) := by
  obtain ⟨m, F, l, k1, k2, k3, k4, k5, k6⟩ := pt_ex hq0 hq hgf hb N p 0 d e a n hp ha hn h1 h2 (fun _ k hk => absurd (co_zero k) hk)
  have e0 : p = F * q + l := by
    rw [k5]
    grind
  refine ⟨F, l, ⟨m, hq0, by omega, k2⟩, e0, k6, k3, k4, fun z => ⟨F, by rw [e0, z]; grind⟩, fun ⟨c, hc⟩ => ?_⟩
  have e1 : (c - F) * q = l := by grind
  have := narrow_w (c := c - F) (q := q) (by rw [e1]; exact k6) hq0
  rw [← e1, this]
  grind
theorem dq_exact {d e a n g f b nq : Nat} (N : Nat) {p q c : L} (hp : Sz d e a n p) (hq : Sz g f b nq q) (hq0 : q ≠ 0) (hgf : g ≤ f) (ha : a ≤ 90) (hb : b ≤ 90) (hn : n + 1 ≤ width q + N) (hN : N ≤ 1000) (h1 : d + N * f + 2 * f ≤ 6500) (h2 : e + N * (f + 1) + 2 * f + 2 ≤ 6500) (hc : c * q = p) : Dq p q c 0 := by
  obtain ⟨F, l, k1, k2, k3, k4, k5, k6⟩ := dq_ex N hp hq hq0 hgf ha hb hn hN h1 h2
  have l0 := k6.mpr ⟨c, hc⟩
  subst l0
  have : F = c := mul_cancel hq0 (by rw [hc, k2]; grind)
  rw [this] at k1
  exact k1
/-! ### plain rows -/
theorem plain_ex {d e a n : Nat} {p : L} (h : Sz d e a n p) (hp : p ≠ 0) : ∃ k c, c ≠ 0 ∧ plainL p = mono k c * p ∧ Sz e e (2 * a) n (plainL p) ∧ plainL p ≠ 0 ∧ width (plainL p) = width p ∧ (plainL p).co 0 = 1 ∧ Bot (plainL p) 0 := by
  have bp := bot_O hp
  have hc : (1 / p.co (botO p) : Rat) ≠ 0 := by
    have := bp.1
    grind
  have e0 : plainL p = mono (0 - botO p) (1 / p.co (botO p)) * p := by
    unfold plainL later
    rw [scale_eq, ← L.mul_assoc, mono_mul]
    congr 2
    · omega
    · grind
  have ne : plainL p ≠ 0 := by
    rw [e0]
    exact mul_ne (mono_ne hc) hp
  have co : ∀ k, (plainL p).co k = 1 / p.co (botO p) * p.co (k + botO p) := fun k => by
    rw [e0, co_mono_mul]
    congr 2
    omega
  have b0 : Bot (plainL p) 0 := by
    refine ⟨?_, fun k hk => ?_⟩
    · rw [co, show (0 : Int) + botO p = botO p by omega]
      have := bp.1
      grind
    · rw [co] at hk
      have := bp.2 (k + botO p) fun z => hk (by rw [z]; grind)
      omega
  have t0 : Top (plainL p) (topO p - botO p) := by
    have tp := top_O hp
    refine ⟨?_, fun k hk => ?_⟩
    · rw [co, show topO p - botO p + botO p = topO p by omega]
      have := tp.1
      have := bp.1
      exact fun z => by
        rcases Rat.mul_eq_zero.mp z with y | y
        · exact hc y
        · exact tp.1 y
    · rw [co] at hk
      have := tp.2 (k + botO p) fun z => hk (by rw [z]; grind)
      omega
  have wd : width (plainL p) = width p := by
    have := width_eq t0 b0
    have := width_O hp
    have := (bot_O hp).le_top (top_O hp)
    omega
  have wt := h.w _ (top_O hp).1
  have wb := h.w _ bp.1
  refine ⟨_, _, hc, e0, ⟨?_, fun k hk => ?_, by rw [wd]; exact h.n⟩, ne, wd, ?_, b0⟩
  · obtain ⟨m, m1, m2⟩ := h.hb
    obtain ⟨z, z1, z2⟩ := m2.2 (botO p)
    have hm : (m : Rat) ≠ 0 := by
      intro w
      have : (m : Nat) = 0 := by exact_mod_cast w
      have := m2.1
      omega
    have hz : z ≠ 0 := fun y => by
      subst y
      have z1 : (0 : Rat) = m * p.co (botO p) := z1
      rcases Rat.mul_eq_zero.mp z1.symm with w | w
      · exact hm w
      · exact bp.1 w
    obtain ⟨sg, hs1, hs2⟩ : ∃ sg : Int, (z.natAbs : Int) = sg * z ∧ sg.natAbs = 1 := by
      by_cases w : 0 ≤ z
      · exact ⟨1, by omega, rfl⟩
      · exact ⟨-1, by omega, rfl⟩
    have hBr : ((z.natAbs : Nat) : Rat) = (sg : Rat) * (z : Rat) := by
      have : ((z.natAbs : Int) : Rat) = ((sg * z : Int) : Rat) := by rw [hs1]
      rw [Rat.intCast_mul] at this
      rw [← this, Rat.intCast_natCast]
    refine ⟨z.natAbs, z2, by omega, fun k => ?_⟩
    obtain ⟨t, t1, t2⟩ := m2.2 (k + botO p)
    refine ⟨sg * t, ?_, by rw [Int.natAbs_mul, hs2, Nat.one_mul]; exact t2⟩
    rw [co, Rat.intCast_mul, hBr, t1, z1]
    have := bp.1
    grind
  · have h1 := t0.2 k hk
    have h2 := b0.2 k hk
    omega
  · rw [co, show (0 : Int) + botO p = botO p by omega]
    have := bp.1
    grind
theorem plain_one {p : L} (h : Bot p 0) (h1 : p.co 0 = 1) (hw : width p = 1) : p = 1 := by
  obtain ⟨n, c, hc, rfl⟩ := single_of hw
  have e := (bot_mono (k := n) hc).uniq h
  subst e
  rw [co_mono, if_pos rfl] at h1
  rw [h1, one_eq]
end K65

/-! K65MC: the law's greatest common factor and base -/
namespace K65
def Pln (p : L) : Prop := p = 0 ∨ (Bot p 0 ∧ p.co 0 = 1)
theorem plain_sz {d e a n : Nat} {p : L} (h : Sz d e a n p) : Sz e e (2 * a) n (plainL p) ∧ Pln (plainL p) ∧ width (plainL p) = width p := by
  by_cases hp : p = 0
  · subst hp
    rw [plain_zero]
    exact ⟨sz_zero, .inl rfl, rfl⟩
  · obtain ⟨k, c, h1, h2, h3, h4, h5, h6, h7⟩ := plain_ex h hp
    exact ⟨h3, .inr ⟨h7, h6⟩, h5⟩
/-- plain rows and the rows are one another's multiples -/
theorem plain_dvd {p : L} : Dvd p (plainL p) ∧ Dvd (plainL p) p := by
  by_cases hp : p = 0
  · subst hp
    rw [plain_zero]
    exact ⟨Dvd.refl _, Dvd.refl _⟩
  · have h : ∃ d e a n, Sz d e a n p ∨ True := ⟨0, 0, 0, 0, .inr trivial⟩
    have bp := bot_O hp
    have hc : (1 / p.co (botO p) : Rat) ≠ 0 := by
      have := bp.1
      grind
    have e0 : plainL p = mono (0 - botO p) (1 / p.co (botO p)) * p := by
      unfold plainL later
      rw [scale_eq, ← L.mul_assoc, mono_mul]
      congr 2
      · omega
      · grind
    refine ⟨⟨_, e0.symm⟩, ⟨mono (botO p) (p.co (botO p)), ?_⟩⟩
    rw [e0, ← L.mul_assoc, mono_mul, show botO p + (0 - botO p) = 0 by omega]
    have : p.co (botO p) * (1 / p.co (botO p)) = 1 := by
      have := bp.1
      grind
    rw [this, ← one_eq]
    grind
theorem Bez.left {p p' q U V g : L} (h : Bez p' q U V g) (h1 : Dvd p p') (h2 : Dvd p' p) : ∃ U', Bez p q U' V g := by
  obtain ⟨c, hc⟩ := h1
  exact ⟨U * c, by rw [← h.eq, ← hc]; grind, h.l.trans h2, h.r⟩
theorem Bez.swap {p q U V g : L} (h : Bez p q U V g) : Bez q p V U g := ⟨by rw [← h.eq]; grind, h.r, h.l⟩
theorem gstep {h f a b n nq : Nat} (N : Nat) {p q : L} (hp : Sz h h a n p) (hq : Sz f f b nq q) (hq0 : q ≠ 0) (ha : a ≤ 90) (hb : b ≤ 90) (hn : n + 1 ≤ width q + N) (hN : N ≤ 1000) (h2 : h + N * (f + 1) + 2 * f + 2 ≤ 6500) :
    ∃ l', (∀ g, Gr q l' g → Gr p q g) ∧ Sz (h + N * (f + 1)) (h + N * (f + 1)) (2 * a) (width q - 1) l' ∧ Pln l' ∧ ∀ U V g, Bez q l' U V g → ∃ U' V', Bez p q U' V' g := by
  have x1 : N * (f + 1) = N * f + N := by rw [Nat.mul_add, Nat.mul_one]
  obtain ⟨F, l, ⟨m, _, hm, hpt⟩, k2, k3, k4, k5, k6⟩ := dq_ex N hp hq hq0 (Nat.le_refl _) ha hb hn hN (by omega) (by omega)
  have qp := width_pos hq0
  have lw : width l ≤ width q - 1 := by
    rcases k3 with z | z
    · rw [z, width_zero]
      omega
    · omega
  have sl : Sz (h + N * f) (h + N * (f + 1)) a (width q - 1) l := ⟨k4, k5, lw⟩
  obtain ⟨s1, s2, s3⟩ := plain_sz sl
  refine ⟨plainL l, fun g hg => .step hq0 hm hpt ⟨sl.sm (by omega) (by omega), sl.w.mono (by omega)⟩ (by omega) hg, s1, s2, fun U V g hz => ?_⟩
  obtain ⟨V', b⟩ := hz.swap.left (p := l) plain_dvd.1 plain_dvd.2
  -- V' l + U q = g
  refine ⟨V', U - V' * F, ?_, ?_, b.r⟩
  · have := b.eq
    rw [k2]
    rw [← this]
    grind
  · have := b.r.comb b.l F 1
    have e2 : F * q + 1 * l = p := by rw [k2]; grind
    rw [e2] at this
    exact this
theorem gr_ex {nP : Nat} {p q : L} (hp : Sz 76 76 8 nP p) (hq : Sz 76 76 8 3 q) (hn : nP ≤ 3 ∨ (q = 0 ∧ nP ≤ 4)) (ne : p ≠ 0 ∨ q ≠ 0) (pq : Pln q) :
    ∃ g U V, Gr p q g ∧ Bez p q U V g ∧ g ≠ 0 ∧ Sz 307 307 16 4 g ∧ (q = 0 → g = p) ∧ (q ≠ 0 → width g ≤ 3) := by
  by_cases c0 : q = 0
  · subst c0
    have hn4 : nP ≤ 4 := by omega
    exact ⟨p, 1, 0, .stop, ⟨by grind, Dvd.refl _, dvd_zero _⟩, ne.elim id fun z => absurd rfl z, hp.mono (by omega) (by omega) (by omega) hn4, fun _ => rfl, fun z => absurd rfl z⟩
  · have hn3 : nP ≤ 3 := hn.elim id fun z => absurd z.1 c0
    have w0 := width_pos c0
    obtain ⟨q1, r1, s1, p1, b1⟩ := gstep 3 hp hq c0 (by omega) (by omega) (by omega) (by omega) (by omega)
    have q3 := hq.n
    by_cases c1 : q1 = 0
    · subst c1
      obtain ⟨U, V, b⟩ := b1 1 0 q ⟨by grind, Dvd.refl _, dvd_zero _⟩
      exact ⟨q, U, V, r1 _ .stop, b, c0, hq.mono (by omega) (by omega) (by omega) (by omega), fun z => absurd z c0, fun _ => q3⟩
    · have w1 := width_pos c1
      have n1 := s1.n
      obtain ⟨q2, r2, s2, p2, b2⟩ := gstep 3 hq s1 c1 (by omega) (by omega) (by omega) (by omega) (by omega)
      by_cases c2 : q2 = 0
      · subst c2
        obtain ⟨U, V, b⟩ := b2 1 0 q1 ⟨by grind, Dvd.refl _, dvd_zero _⟩
        obtain ⟨U, V, b⟩ := b1 _ _ _ b
        exact ⟨q1, U, V, r1 _ (r2 _ .stop), b, c1, s1.mono (by omega) (by omega) (by omega) (by omega), fun z => absurd z c0, fun _ => by omega⟩
      · have w2 := width_pos c2
        have n2 := s2.n
        obtain ⟨q3, r3, s3, p3, b3⟩ := gstep 2 s1 s2 c2 (by omega) (by omega) (by omega) (by omega) (by omega)
        have z3 : q3 = 0 := width_zero_iff (by have := s3.n; omega)
        subst z3
        obtain ⟨U, V, b⟩ := b3 1 0 q2 ⟨by grind, Dvd.refl _, dvd_zero _⟩
        obtain ⟨U, V, b⟩ := b2 _ _ _ b
        obtain ⟨U, V, b⟩ := b1 _ _ _ b
        have o1 : q2 = 1 := by
          rcases p2 with z | ⟨z1, z2⟩
          · exact absurd z c2
          · exact plain_one z1 z2 (by omega)
        subst o1
        exact ⟨1, U, V, r1 _ (r2 _ (r3 _ .stop)), b, c2, sz_one (by omega), fun z => absurd z c0, fun _ => by omega⟩
/-- the law's coprime pair of a row's parts -/
theorem law_gcd {s : L} (h : Par s) (hs : s ≠ 0) : ∃ g u v U V, Gr (plainL (even s)) (plainL (odd s)) g ∧ Dq (even s) g u 0 ∧ Dq (odd s) g v 0 ∧ u * g = even s ∧ v * g = odd s ∧ g ≠ 0 ∧ U * u + V * v = 1 ∧ Sz 307 307 16 4 g ∧ Sz 627 694 20 4 u ∧ Sz 627 694 20 4 v := by
  have ne : even s ≠ 0 ∨ odd s ≠ 0 := by
    by_cases e : even s = 0
    · refine .inr fun e2 => hs ?_
      rw [← weave_parts s, e, e2]
      unfold weave
      rw [spread_zero, later_nought]
      grind
    · exact .inl e
  have he := h.e
  have ho := h.o
  obtain ⟨pe1, pe2, pe3⟩ := plain_sz he
  obtain ⟨po1, po2, po3⟩ := plain_sz ho
  have pz : ∀ {p : L}, plainL p = 0 ↔ p = 0 := fun {p} => ⟨fun z => by
    obtain ⟨c, hc⟩ := (plain_dvd (p := p)).2
    rw [← hc, z]
    grind, fun z => by rw [z, plain_zero]⟩
  have ho3 : width (odd s) ≤ 3 := by
    rcases h.wd with z | z
    · exact z.2
    · rw [z.1, width_zero]
      omega
  have sO : Sz 76 76 8 3 (plainL (odd s)) := ⟨po1.hb, po1.w, by omega⟩
  have sE : Sz 76 76 8 (width (even s)) (plainL (even s)) := ⟨pe1.hb, pe1.w, by omega⟩
  obtain ⟨g, U, V, k1, k2, k3, k4, k5, k6⟩ := gr_ex sE sO (by
    rcases h.wd with z | z
    · exact .inl z.1
    · exact .inr ⟨pz.mpr z.1, z.2⟩) (ne.elim (fun z => .inl fun y => z (pz.mp y)) fun z => .inr fun y => z (pz.mp y)) po2
  obtain ⟨U', b1⟩ := k2.left (p := even s) plain_dvd.1 plain_dvd.2
  obtain ⟨V', b2⟩ := b1.swap.left (p := odd s) plain_dvd.1 plain_dvd.2
  have b := b2.swap
  obtain ⟨u, hu⟩ := b.l
  obtain ⟨v, hv⟩ := b.r
  have gp := width_pos k3
  have one := cop_of_bez k3 hu hv b
  have sz_u : Sz 627 694 20 4 u ∧ Sz 627 694 20 4 v := by
    by_cases g1 : width g = 1
    · -- g is a unit
      have gone : Sz 307 307 16 4 g := k4
      have s1 := quot_sz 4 (he) gone (by omega) k3 (by omega) hu
      have s2 := quot_sz 4 (ho) gone (by omega) k3 (by omega) hv
      have h1 := he.hb.single k4.hb g1 hu
      have h2 := ho.hb.single k4.hb g1 hv
      exact ⟨⟨h1.mono (by omega) (by omega), s1.w, s1.n⟩, ⟨h2.mono (by omega) (by omega), s2.w, s2.n⟩⟩
    · by_cases c0 : odd s = 0
      · have eg := k5 (pz.mpr c0)
        have wg : width g = width (even s) := by rw [eg, pe3]
        have he' : Sz 13 76 4 (width (even s)) (even s) := ⟨he.hb, he.w, Nat.le_refl _⟩
        have s1 := quot_sz 1 he' k4 (by omega) k3 (by omega) hu
        have v0 : v = 0 := mul_cancel k3 (by rw [hv, c0]; grind)
        rw [v0]
        exact ⟨s1.mono (by omega) (by omega) (by omega) (by omega), sz_zero⟩
      · have he3 : width (even s) ≤ 3 := by
          rcases h.wd with z | z
          · exact z.1
          · exact absurd z.1 c0
        have he' : Sz 13 76 4 3 (even s) := ⟨he.hb, he.w, he3⟩
        have ho' : Sz 13 76 4 3 (odd s) := ⟨ho.hb, ho.w, ho3⟩
        have s1 := quot_sz 2 he' k4 (by omega) k3 (by omega) hu
        have s2 := quot_sz 2 ho' k4 (by omega) k3 (by omega) hv
        exact ⟨s1.mono (by omega) (by omega) (by omega) (by omega), s2.mono (by omega) (by omega) (by omega) (by omega)⟩
  refine ⟨g, u, v, U', V', k1, ?_, ?_, hu, hv, k3, one, k4, sz_u.1, sz_u.2⟩
  · exact dq_exact 4 he k4 k3 (by omega) (by omega) (by omega) (by omega) (by omega) (by omega) (by omega) hu
  · exact dq_exact 4 ho k4 k3 (by omega) (by omega) (by omega) (by omega) (by omega) (by omega) (by omega) hv
end K65

/-! K65MD: rows that do not tell: the law -/
namespace K65
abbrev FitsR (a b c o : L) : Prop := Fits (even a) (odd a) (even b) (odd b) c o
theorem zero_parts {p : L} (h1 : even p = 0) (h2 : odd p = 0) : p = 0 := by
  rw [← weave_parts p, h1, h2]
  unfold weave
  rw [spread_zero, later_nought]
  grind
theorem if_zt {α : Type} {p : L} {x y : α} (h : p = 0) : (if isZ p then x else y) = x := if_pos (isZ_iff.mpr h)
theorem if_zf {α : Type} {p : L} {x y : α} (h : p ≠ 0) : (if isZ p then x else y) = y := if_neg (by rw [isZ_not.mpr h]; decide)
/-- the law's quotient by the coprime pair -/
theorem sel_dq {r u v t U V : L} (h : Par r) (su : Sz 627 694 20 4 u) (sv : Sz 627 694 20 4 v) (one : U * u + V * v = 1) (e1 : t * u = even r) (e2 : t * v = odd r) :
    Dq (if isZ u then odd r else even r) (if isZ u then v else u) t 0 ∧ Sz 2789 2860 24 4 t := by
  by_cases z : u = 0
  · rw [if_zt z, if_zt z]
    have v0 : v ≠ 0 := (cop_ne one).elim (fun y => absurd z y) id
    have := width_pos v0
    exact ⟨dq_exact 4 h.o sv v0 (by omega) (by omega) (by omega) (by omega) (by omega) (by omega) (by omega) e2, quot_sz 4 h.o sv (by omega) v0 (by omega) e2⟩
  · rw [if_zf z, if_zf z]
    have := width_pos z
    exact ⟨dq_exact 4 h.e su z (by omega) (by omega) (by omega) (by omega) (by omega) (by omega) (by omega) e1, quot_sz 4 h.e su (by omega) z (by omega) e1⟩
structure LBase (a b g u v x y U V : L) : Prop where
  bs : BsOk a b g u v x y
  al : Along (even a) (odd a) (even b) (odd b) u v x y U V
  sx : Sz 2789 2860 24 4 x
  sy : Sz 2789 2860 24 4 y
  g1 : x ≠ 0 → Sz 307 307 16 4 x
  g2 : x = 0 → Sz 307 307 16 4 y ∧ y ≠ 0
theorem law_base {a b : L} (ha : Par a) (hb : Par b) (ne : ¬ (a = 0 ∧ b = 0)) (D : even a * odd b - odd a * even b = 0) : ∃ g u v x y U V, LBase a b g u v x y U V := by
  have wa : W 400 a := ha.s.w.mono (by omega)
  have wb : W 400 b := hb.s.w.mono (by omega)
  have pl : ∀ {p : L}, Sz 13 76 4 4 p → PlOk p := fun h => ⟨h.sm (by omega) (by omega), h.w.mono (by omega)⟩
  by_cases c0 : a = 0
  · have b0 : b ≠ 0 := fun z => ne ⟨c0, z⟩
    obtain ⟨g, u, v, U, V, k1, k2, k3, k4, k5, k6, k7, k8, k9, k10⟩ := law_gcd hb b0
    have eu : g * u = even b := by rw [L.mul_comm]; exact k4
    have ev : g * v = odd b := by rw [L.mul_comm]; exact k5
    obtain ⟨d1, d2⟩ := sel_dq hb k9 k10 k7 eu ev
    have ea : even a = 0 := by rw [c0, even_zero]
    have oa : odd a = 0 := by rw [c0, odd_zero]
    have zz : (0 : L) * u = even a ∧ (0 : L) * v = odd a := by rw [ea, oa]; exact ⟨by grind, by grind⟩
    obtain ⟨d3, d4⟩ := sel_dq ha k9 k10 k7 zz.1 zz.2
    have al : Along (even a) (odd a) (even b) (odd b) u v 0 g U V := ⟨k7, zz.1, zz.2, eu, ev⟩
    refine ⟨g, u, v, 0, g, U, V, ⟨wa, wb, ?_, ?_, ?_, ?_, ?_, d3, d1⟩, al, sz_zero, d2, fun z => absurd rfl z, fun _ => ⟨k8, k6⟩⟩
    · rw [if_zt c0]; exact pl hb.e
    · rw [if_zt c0]; exact pl hb.o
    · rw [if_zt c0]; exact k1
    · rw [if_zt c0]; exact k2
    · rw [if_zt c0]; exact k3
  · obtain ⟨g, u, v, U, V, k1, k2, k3, k4, k5, k6, k7, k8, k9, k10⟩ := law_gcd ha c0
    have eu : g * u = even a := by rw [L.mul_comm]; exact k4
    have ev : g * v = odd a := by rw [L.mul_comm]; exact k5
    obtain ⟨d1, d2⟩ := sel_dq ha k9 k10 k7 eu ev
    have al := along_of D k6 k7 eu ev
    obtain ⟨d3, d4⟩ := sel_dq hb k9 k10 k7 al.ye al.yo
    refine ⟨g, u, v, g, U * even b + V * odd b, U, V, ⟨wa, wb, ?_, ?_, ?_, ?_, ?_, d1, d3⟩, al, d2, d4, fun _ => k8, fun z => absurd z k6⟩
    · rw [if_zf c0]; exact pl ha.e
    · rw [if_zf c0]; exact pl ha.o
    · rw [if_zf c0]; exact k1
    · rw [if_zf c0]; exact k2
    · rw [if_zf c0]; exact k3
theorem cr_ok {a b : L} (ha : Par a) (hb : Par b) : CrOk a b :=
  ⟨ha.s.w.mono (by omega), hb.s.w.mono (by omega), tm_sz 2 ha.e hb.o (by omega) (by omega) (by omega) (by omega) (by omega) (by omega), tm_sz 2 ha.o hb.e (by omega) (by omega) (by omega) (by omega) (by omega) (by omega),
    ls_sz (ha.e.mul hb.o (w := 2) (by omega)) (ha.o.mul hb.e (w := 2) (by omega)) (by omega) (by omega) (by omega) (by omega) (by omega) (by omega)⟩
/-- the law's word, where the rows do not tell -/
theorem fit_along {a b c o : L} (ha : Par a) (hb : Par b) (hc : Sz 27 123 7 6 c) (ho : Sz 27 123 7 6 o) (D : even a * odd b - odd a * even b = 0) : ∃ r, FitOk a b c o r ∧ (r = true ↔ FitsR a b c o) := by
  by_cases ne : a = 0 ∧ b = 0
  · refine ⟨isZ c && isZ o, ⟨cr_ok ha hb, fun z => absurd D z, fun _ _ _ => rfl, fun _ z => absurd ne z⟩, ?_⟩
    have e : FitsR a b c o ↔ Fits 0 0 0 0 c o := by
      unfold FitsR
      rw [ne.1, ne.2, even_zero, odd_zero]
    rw [e, fits_zero, Bool.and_eq_true, isZ_iff, isZ_iff]
  · obtain ⟨g, u, v, x, y, U, V, B⟩ := law_base ha hb ne D
    have key : ∃ f l, Dq (if isZ x then o else c) (if isZ x then y else x) f l ∧ (l = 0 → TmOk f x ∧ TmOk f y) ∧ (l = 0 ↔ Dvd (if isZ x then y else x) (if isZ x then o else c)) ∧ (if isZ x then o else c) = f * (if isZ x then y else x) + l ∧ (if isZ x then y else x) ≠ 0 := by
      have go : ∀ {C X : L}, Sz 27 123 7 6 C → Sz 307 307 16 4 X → X ≠ 0 → ∃ f l, Dq C X f l ∧ (l = 0 → TmOk f x ∧ TmOk f y) ∧ (l = 0 ↔ Dvd X C) ∧ C = f * X + l ∧ X ≠ 0 := fun {C X} sC sX X0 => by
        have := width_pos X0
        obtain ⟨f, l, k1, k2, k3, k4, k5, k6⟩ := dq_ex 6 sC sX X0 (by omega) (by omega) (by omega) (by omega) (by omega) (by omega) (by omega)
        refine ⟨f, l, k1, fun z => ?_, k6, k2, X0⟩
        have e : f * X = C := by rw [k2, z]; grind
        have sf := quot_sz 6 sC sX (by omega) X0 (by omega) e
        exact ⟨tm_sz 3 sf B.sx (by omega) (by omega) (by omega) (by omega) (by omega) (by omega), tm_sz 3 sf B.sy (by omega) (by omega) (by omega) (by omega) (by omega) (by omega)⟩
      by_cases z : x = 0
      · rw [if_zt z, if_zt z]
        exact go ho (B.g2 z).1 (B.g2 z).2
      · rw [if_zf z, if_zf z]
        exact go hc (B.g1 z) z
    obtain ⟨f, l, k1, k2, k3, k4, k5⟩ := key
    refine ⟨isZ l && (eqL (f * x) c && eqL (f * y) o), ⟨cr_ok ha hb, fun z => absurd D z, fun _ z1 z2 => absurd ⟨z1, z2⟩ ne, fun _ _ => ⟨g, u, v, x, y, f, l, B.bs, k1, k2, rfl⟩⟩, ?_⟩
    rw [show FitsR a b c o ↔ _ from B.al.fits, Bool.and_eq_true, Bool.and_eq_true, isZ_iff, eqL_iff, eqL_iff]
    constructor
    · rintro ⟨_, h1, h2⟩
      exact ⟨f, h1, h2⟩
    · rintro ⟨t, h1, h2⟩
      by_cases z : x = 0
      · rw [if_zt z, if_zt z] at k3 k4
        rw [if_zt z] at k5
        have l0 := k3.mpr ⟨t, h2⟩
        have e : f = t := mul_cancel k5 (by rw [h2, k4, l0]; grind)
        exact ⟨l0, by rw [e, h1], by rw [e, h2]⟩
      · rw [if_zf z, if_zf z] at k3 k4
        rw [if_zf z] at k5
        have l0 := k3.mpr ⟨t, h1⟩
        have e : f = t := mul_cancel k5 (by rw [h1, k4, l0]; grind)
        exact ⟨l0, by rw [e, h1], by rw [e, h2]⟩
end K65

/-! K65ME: rows that do not tell: the program -/
namespace K65
structure Lead (a b c o : L) (res : Option (L × L)) : Prop where
  lead : LeadOk a b c o res
  iff : res.isSome = true ↔ FitsR a b c o
  leads : ∀ p, res = some p → p.1 * even a + p.2 * odd a = c ∧ p.1 * even b + p.2 * odd b = o ∧ Sz 1500 1700 30 61 p.1 ∧ Sz 1500 1700 30 61 p.2
theorem width_factor {c q p : L} (hq : q ≠ 0) (h : c * q = p) : width c ≤ width p := by
  by_cases e : c = 0
  · rw [e, width_zero]
    omega
  · have k := width_mul e hq
    have := width_pos hq
    rw [h] at k
    omega
theorem sel_dqP {r u v t U V : L} (h : Par r) (su : Sz 480 550 9 4 u) (sv : Sz 480 550 9 4 v) (one : U * u + V * v = 1) (e1 : t * u = even r) (e2 : t * v = odd r) :
    TimesOk (even r, odd r) (u, v) t ∧ Sz 2213 2284 13 4 t := by
  by_cases z : u = 0
  · have v0 : v ≠ 0 := (cop_ne one).elim (fun y => absurd z y) id
    have := width_pos v0
    refine ⟨⟨?_, ?_⟩, quot_sz 4 h.o sv (by omega) v0 (by omega) e2⟩
    · unfold sel
      rw [if_zt z, if_zt z]
      show DqOk (odd r) v
      exact dq_sz 4 h.o sv (by omega) v0 (by omega) (by omega) (by omega) (by omega) (by omega)
    · unfold sel
      rw [if_zt z, if_zt z]
      exact quo_some v0 e2
  · have := width_pos z
    refine ⟨⟨?_, ?_⟩, quot_sz 4 h.e su (by omega) z (by omega) e1⟩
    · unfold sel
      rw [if_zf z, if_zf z]
      show DqOk (even r) u
      exact dq_sz 4 h.e su (by omega) z (by omega) (by omega) (by omega) (by omega) (by omega)
    · unfold sel
      rw [if_zf z, if_zf z]
      exact quo_some z e1
structure PBase (a b A B g u v x y : L) : Prop where
  lone : LoneOk (even a, odd a) (even b, odd b) A B g u v
  run2 : Eu u 1 0 v 0 1 A B 1
  al : Along (even a) (odd a) (even b) (odd b) u v x y A B
  tx : TimesOk (even a, odd a) (u, v) x
  ty : TimesOk (even b, odd b) (u, v) y
  sx : Sz 2213 2284 13 4 x
  sy : Sz 2213 2284 13 4 y
  hg : GAB A B g
  wA : W 17 A
  wB : W 17 B
  sg : Sz 330 400 5 4 g
  ne : g ≠ 0
  g1 : x ≠ 0 → x = g
  g2 : x = 0 → y = g
theorem par_runs {s : L} (h : Par s) (hs : s ≠ 0) : ∃ A B g u v, Runs (even s) (odd s) A B g u v ∧ Sz 480 550 9 4 u ∧ Sz 480 550 9 4 v ∧ Sz 330 400 5 4 g := by
  have ne : even s ≠ 0 ∨ odd s ≠ 0 := by
    by_cases e : even s = 0
    · exact .inr fun e2 => hs (zero_parts e e2)
    · exact .inl e
  obtain ⟨A, B, g, u, v, R⟩ := runs h.e.hb h.o.hb h.e.w h.o.w h.wd ne
  have wu := width_factor R.ne R.l
  have wv := width_factor R.ne R.r
  have := h.e.n
  have := h.o.n
  refine ⟨A, B, g, u, v, R, ⟨R.hu, R.wu, by omega⟩, ⟨R.hv, R.wv, by omega⟩, ?_, R.wg, ?_⟩
  · rcases R.hg with ⟨_, h1, _⟩ | ⟨_, h1, _⟩ | ⟨h1, _⟩ <;> exact h1.mono (by omega) (by omega)
  · rcases ne with e | e
    · have : u ≠ 0 := fun z => e (by rw [← R.l, z]; grind)
      have h1 := width_factor (c := g) (q := u) (p := even s) this (by rw [L.mul_comm]; exact R.l)
      omega
    · have : v ≠ 0 := fun z => e (by rw [← R.r, z]; grind)
      have h1 := width_factor (c := g) (q := v) (p := odd s) this (by rw [L.mul_comm]; exact R.r)
      omega
theorem prog_base {a b : L} (ha : Par a) (hb : Par b) (ne : ¬ (a = 0 ∧ b = 0)) (D : even a * odd b - odd a * even b = 0) : ∃ A B g u v x y, PBase a b A B g u v x y := by
  by_cases c0 : a = 0
  · have b0 : b ≠ 0 := fun z => ne ⟨c0, z⟩
    obtain ⟨A, B, g, u, v, R, su, sv, sg⟩ := par_runs hb b0
    have ea : even a = 0 := by rw [c0, even_zero]
    have oa : odd a = 0 := by rw [c0, odd_zero]
    have pk : pick (even a, odd a) (even b, odd b) = (even b, odd b) := if_pos (isNo_iff.mpr ⟨ea, oa⟩)
    have eu : g * u = even b := by rw [L.mul_comm]; exact R.l
    have ev : g * v = odd b := by rw [L.mul_comm]; exact R.r
    have zz : (0 : L) * u = even a ∧ (0 : L) * v = odd a := by rw [ea, oa]; exact ⟨by grind, by grind⟩
    obtain ⟨d1, d2⟩ := sel_dqP hb su sv R.bez eu ev
    obtain ⟨d3, d4⟩ := sel_dqP ha su sv R.bez zz.1 zz.2
    refine ⟨A, B, g, u, v, 0, g, ⟨by rw [pk]; exact R.run, by rw [pk]; exact R.dl, by rw [pk]; exact R.dr, by rw [pk]; exact quo_some R.ne R.l, by rw [pk]; exact quo_some R.ne R.r⟩, R.run2, ⟨R.bez, zz.1, zz.2, eu, ev⟩, d3, d1, sz_zero, d2, R.hg, R.wA, R.wB, sg, R.ne, fun z => absurd rfl z, fun _ => rfl⟩
  · obtain ⟨A, B, g, u, v, R, su, sv, sg⟩ := par_runs ha c0
    have pk : pick (even a, odd a) (even b, odd b) = (even a, odd a) := if_neg (fun z => c0 (zero_parts (isNo_iff.mp z).1 (isNo_iff.mp z).2))
    have eu : g * u = even a := by rw [L.mul_comm]; exact R.l
    have ev : g * v = odd a := by rw [L.mul_comm]; exact R.r
    have al := along_of D R.ne R.bez eu ev
    obtain ⟨d1, d2⟩ := sel_dqP ha su sv R.bez eu ev
    obtain ⟨d3, d4⟩ := sel_dqP hb su sv R.bez al.ye al.yo
    exact ⟨A, B, g, u, v, g, A * even b + B * odd b, ⟨by rw [pk]; exact R.run, by rw [pk]; exact R.dl, by rw [pk]; exact R.dr, by rw [pk]; exact quo_some R.ne R.l, by rw [pk]; exact quo_some R.ne R.r⟩, R.run2, al, d1, d3, d2, d4, R.hg, R.wA, R.wB, sg, R.ne, fun _ => rfl, fun z => absurd z R.ne⟩
/-- the row by which both channels are made, and the row of the table -/
theorem want_sz {A B g w c : L} (hg : GAB A B g) (wA : W 17 A) (wB : W 17 B) (sg : Sz 330 400 5 4 g) (ne : g ≠ 0) (hc : Sz 27 123 7 6 c) (h : w * g = c) :
    Sz 1202 1308 12 6 w ∧ Hb 410 550 A ∧ Hb 410 550 B ∧ Sz 1500 1700 30 61 (A * w) ∧ Sz 1500 1700 30 61 (B * w) := by
  have gp := width_pos ne
  have ww : W 12 w := (W.quot ne hc.w sg.w h).mono (by omega)
  have nw := width_factor ne h
  have := hc.n
  have fin : ∀ {d e d' e' : Nat}, Hb d e w → Hb d' e' A → Hb d' e' B → d ≤ 1202 → e ≤ 1308 → d' ≤ 410 → e' ≤ 550 → d' + d ≤ 1500 → e' + e + 6 ≤ 1700 → Sz 1202 1308 12 6 w ∧ Hb 410 550 A ∧ Hb 410 550 B ∧ Sz 1500 1700 30 61 (A * w) ∧ Sz 1500 1700 30 61 (B * w) := fun {d e d' e'} h1 h2 h3 q1 q2 q3 q4 q5 q6 => by
    have sA : Sz d' e' 17 35 A := ⟨h2, wA, width_w (a := 17) wA⟩
    have sB : Sz d' e' 17 35 B := ⟨h3, wB, width_w (a := 17) wB⟩
    have sw : Sz d e 12 6 w := ⟨h1, ww, by omega⟩
    exact ⟨sw.mono q1 q2 (by omega) (by omega), h2.mono q3 q4, h3.mono q3 q4, (sA.mul sw (w := 6) (by omega)).mono q5 (by omega) (by omega) (by omega), (sB.mul sw (w := 6) (by omega)).mono q5 (by omega) (by omega) (by omega)⟩
  rcases hg with ⟨h1, h2, h3, h4⟩ | ⟨h1, h2, h3, h4⟩ | ⟨h2, h3, h4⟩
  · exact fin (hc.hb.single h2 h1 h) h3 h4 (by omega) (by omega) (by omega) (by omega) (by omega) (by omega)
  · have sg' : Sz 170 235 5 4 g := ⟨h2, sg.w, sg.n⟩
    exact fin (quot_sz 5 hc sg' (by omega) ne (by omega) h).hb h3 h4 (by omega) (by omega) (by omega) (by omega) (by omega) (by omega)
  · have sg' : Sz 13 76 5 4 g := ⟨h2, sg.w, sg.n⟩
    exact fin (quot_sz 6 hc sg' (by omega) ne (by omega) h).hb h3 h4 (by omega) (by omega) (by omega) (by omega) (by omega) (by omega)
theorem lead_along {a b c o : L} (ha : Par a) (hb : Par b) (hc : Sz 27 123 7 6 c) (ho : Sz 27 123 7 6 o) (D : even a * odd b - odd a * even b = 0) : ∃ res, Lead a b c o res := by
  by_cases ne : a = 0 ∧ b = 0
  · have e0 : (even a, odd a) = ((0 : L), (0 : L)) := by rw [ne.1, even_zero, odd_zero]
    have e1 : (even b, odd b) = ((0 : L), (0 : L)) := by rw [ne.2, even_zero, odd_zero]
    have hs : ∀ p, (if isZ c && isZ o then some ((0 : L), (0 : L)) else none) = some p → p = (0, 0) ∧ c = 0 ∧ o = 0 := fun p h => by
      by_cases z : (isZ c && isZ o) = true
      · rw [if_pos z] at h
        cases h
        rw [Bool.and_eq_true, isZ_iff, isZ_iff] at z
        exact ⟨rfl, z.1, z.2⟩
      · rw [if_neg z] at h
        cases h
    refine ⟨if isZ c && isZ o then some (0, 0) else none, ⟨fun _ => ⟨fun _ _ => rfl, fun z => absurd ⟨e0, e1⟩ z⟩, fun z => absurd D z, fun p h => ?_⟩, ?_, fun p h => ?_⟩
    · rw [(hs p h).1]
      exact ⟨w_zero, w_zero, (sz_zero (d := 0) (e := 0) (a := 0) (n := 0)).sm (by omega) (by omega), (sz_zero (d := 0) (e := 0) (a := 0) (n := 0)).sm (by omega) (by omega)⟩
    · have e : FitsR a b c o ↔ Fits 0 0 0 0 c o := by
        unfold FitsR
        rw [ne.1, ne.2, even_zero, odd_zero]
      rw [e, fits_zero]
      by_cases z : (isZ c && isZ o) = true
      · rw [if_pos z]
        rw [Bool.and_eq_true, isZ_iff, isZ_iff] at z
        exact ⟨fun _ => z, fun _ => rfl⟩
      · rw [if_neg z]
        refine ⟨fun y => (nomatch y), fun y => absurd ?_ z⟩
        rw [Bool.and_eq_true, isZ_iff, isZ_iff]
        exact y
    · obtain ⟨rfl, rfl, rfl⟩ := hs p h
      exact ⟨by grind, by grind, sz_zero, sz_zero⟩
  · obtain ⟨A, B, g, u, v, x, y, P⟩ := prog_base ha hb ne D
    -- what is wanted
    have want : ∀ w, wantOf c o x y = some w → (x = 0 → w * g = o) ∧ (x ≠ 0 → w * g = c) := fun w h => by
      unfold wantOf at h
      by_cases z : x = 0
      · rw [if_zt z] at h
        refine ⟨fun _ => ?_, fun y => absurd z y⟩
        rw [← P.g2 z]
        exact quo_mul h
      · rw [if_zf z] at h
        refine ⟨fun y => absurd y z, fun _ => ?_⟩
        rw [← P.g1 z]
        exact quo_mul h
    have wsz : ∀ w, wantOf c o x y = some w → Sz 1202 1308 12 6 w ∧ Hb 410 550 A ∧ Hb 410 550 B ∧ Sz 1500 1700 30 61 (A * w) ∧ Sz 1500 1700 30 61 (B * w) := fun w h => by
      by_cases z : x = 0
      · exact want_sz P.hg P.wA P.wB P.sg P.ne ho ((want w h).1 z)
      · exact want_sz P.hg P.wA P.wB P.sg P.ne hc ((want w h).2 z)
    have res_some : ∀ p, alongRes c o x y A B = some p ↔ ∃ w, wantOf c o x y = some w ∧ x * w = c ∧ y * w = o ∧ p = (A * w, B * w) := fun p => by
      unfold alongRes
      cases hw : wantOf c o x y with
      | none => exact ⟨fun z => (nomatch z), fun ⟨w, z, _⟩ => (nomatch z)⟩
      | some w =>
        show (if (eqL (x * w) c && eqL (y * w) o) = true then some (A * w, B * w) else none) = some p ↔ _
        by_cases z : (eqL (x * w) c && eqL (y * w) o) = true
        · rw [if_pos z]
          rw [Bool.and_eq_true, eqL_iff, eqL_iff] at z
          exact ⟨fun q => ⟨w, rfl, z.1, z.2, (Option.some.inj q).symm⟩, fun ⟨w', q1, _, _, q2⟩ => by rw [q2, Option.some.inj q1]⟩
        · rw [if_neg z]
          refine ⟨fun q => (nomatch q), fun ⟨w', q1, q2, q3, _⟩ => absurd ?_ z⟩
          rw [Bool.and_eq_true, eqL_iff, eqL_iff, Option.some.inj q1]
          exact ⟨q2, q3⟩
    have lead : ∀ p, alongRes c o x y A B = some p → p.1 * even a + p.2 * odd a = c ∧ p.1 * even b + p.2 * odd b = o ∧ Sz 1500 1700 30 61 p.1 ∧ Sz 1500 1700 30 61 p.2 := fun p h => by
      obtain ⟨w, h1, h2, h3, rfl⟩ := (res_some p).mp h
      obtain ⟨_, _, _, s1, s2⟩ := wsz w h1
      refine ⟨?_, ?_, s1, s2⟩
      · show A * w * even a + B * w * odd a = c
        rw [← P.al.xe, ← P.al.xo, ← h2]
        have : A * w * (x * u) + B * w * (x * v) = x * w * (A * u + B * v) := by grind
        rw [this, P.al.one]
        grind
      · show A * w * even b + B * w * odd b = o
        rw [← P.al.ye, ← P.al.yo, ← h3]
        have : A * w * (y * u) + B * w * (y * v) = y * w * (A * u + B * v) := by grind
        rw [this, P.al.one]
        grind
    refine ⟨alongRes c o x y A B, ⟨fun _ => ⟨fun z1 z2 => ?_, fun _ => ⟨A, B, g, u, v, x, y, P.lone, P.tx, P.ty, fun z => ?_, fun z => ?_, fun w hw => ?_, rfl⟩⟩, fun z => absurd D z, fun p h => ?_⟩, ?_, lead⟩
    · exfalso
      exact ne ⟨zero_parts (congrArg (·.1) z1) (congrArg (·.2) z1), zero_parts (congrArg (·.1) z2) (congrArg (·.2) z2)⟩
    · have := width_pos P.ne
      rw [P.g1 (isZ_not.mp z)]
      exact dq_sz 6 hc P.sg (by omega) P.ne (by omega) (by omega) (by omega) (by omega) (by omega)
    · have := width_pos P.ne
      rw [P.g2 (isZ_iff.mp z)]
      exact dq_sz 6 ho P.sg (by omega) P.ne (by omega) (by omega) (by omega) (by omega) (by omega)
    · obtain ⟨sw, hA, hB, _, _⟩ := wsz w hw
      have sA : Sz 410 550 17 35 A := ⟨hA, P.wA, width_w (a := 17) P.wA⟩
      have sB : Sz 410 550 17 35 B := ⟨hB, P.wB, width_w (a := 17) P.wB⟩
      refine ⟨pr_sz 2 P.sx sw (by omega) (by omega) (by omega) (by omega) (by omega), pr_sz 2 P.sy sw (by omega) (by omega) (by omega) (by omega) (by omega), fun _ _ => ⟨P.run2, ?_, quo_some one_ne (by grind), pr_sz 6 sA sw (by omega) (by omega) (by omega) (by omega) (by omega), pr_sz 6 sB sw (by omega) (by omega) (by omega) (by omega) (by omega)⟩⟩
      exact dq_sz 6 sw (sz_one (d := 0) (e := 0) (a := 0) (n := 1) (by omega)) (by omega) one_ne (by rw [width_one]; omega) (by omega) (by omega) (by omega) (by omega)
    · obtain ⟨_, _, s1, s2⟩ := lead p h
      exact ⟨s1.w.mono (by omega), s2.w.mono (by omega), s1.sm (by omega) (by omega), s2.sm (by omega) (by omega)⟩
    · rw [show FitsR a b c o ↔ _ from P.al.fits]
      constructor
      · intro h
        obtain ⟨p, hp⟩ := Option.isSome_iff_exists.mp h
        obtain ⟨w, h1, h2, h3, _⟩ := (res_some p).mp hp
        exact ⟨w, by rw [L.mul_comm]; exact h2, by rw [L.mul_comm]; exact h3⟩
      · rintro ⟨t, h1, h2⟩
        have : wantOf c o x y = some t := by
          unfold wantOf
          by_cases z : x = 0
          · rw [if_zt z]
            exact quo_some (by rw [P.g2 z]; exact P.ne) h2
          · rw [if_zf z]
            exact quo_some z h1
        rw [(res_some _).mpr ⟨t, this, by rw [L.mul_comm]; exact h1, by rw [L.mul_comm]; exact h2, rfl⟩]
        rfl
end K65

/-! K65MF: rows that tell -/
namespace K65
structure Tel (a b c o : L) : Prop where
  ae : Sz 7 37 2 2 (even a)
  ao : Sz 7 37 2 2 (odd a)
  be : Sz 7 37 2 2 (even b)
  bo : Sz 7 37 2 2 (odd b)
  c : Sz 21 84 5 5 c
  o : Sz 21 84 5 5 o
theorem Tel.dt {a b c o : L} (t : Tel a b c o) : Sz 28 90 4 9 (even a * odd b - odd a * even b) := ((t.ae.mul t.bo (w := 1) (by omega)).sub (t.ao.mul t.be (w := 1) (by omega))).mono (by omega) (by omega) (by omega) (by omega)
theorem Tel.n1 {a b c o : L} (t : Tel a b c o) : Sz 56 153 7 15 (c * odd b - o * odd a) := ((t.c.mul t.bo (w := 3) (by omega)).sub (t.o.mul t.ao (w := 3) (by omega))).mono (by omega) (by omega) (by omega) (by omega)
theorem Tel.n2 {a b c o : L} (t : Tel a b c o) : Sz 56 153 7 15 (even a * o - even b * c) := ((t.ae.mul t.o (w := 1) (by omega)).sub (t.be.mul t.c (w := 1) (by omega))).mono (by omega) (by omega) (by omega) (by omega)
theorem Tel.n3 {a b c o : L} (t : Tel a b c o) : Sz 56 153 7 15 (o * even a - c * even b) := ((t.o.mul t.ae (w := 3) (by omega)).sub (t.c.mul t.be (w := 3) (by omega))).mono (by omega) (by omega) (by omega) (by omega)
theorem fits_tellR {a b c o : L} (D : even a * odd b - odd a * even b ≠ 0) : FitsR a b c o ↔ Dvd (even a * odd b - odd a * even b) (c * odd b - o * odd a) ∧ Dvd (even a * odd b - odd a * even b) (even a * o - even b * c) := by
  have e : even a * o - even b * c = o * even a - c * even b := by grind
  rw [e]
  exact fits_tell D
theorem fit_tell {a b c o : L} (ha : Par a) (hb : Par b) (t : Tel a b c o) (D : even a * odd b - odd a * even b ≠ 0) : ∃ r, FitOk a b c o r ∧ (r = true ↔ FitsR a b c o) := by
  have dp := width_pos D
  obtain ⟨f, l, k1, k2, k3, k4, k5, k6⟩ := dq_ex 15 t.n1 t.dt D (by omega) (by omega) (by omega) (by omega) (by omega) (by omega) (by omega)
  obtain ⟨f', l', j1, j2, j3, j4, j5, j6⟩ := dq_ex 15 t.n3 t.dt D (by omega) (by omega) (by omega) (by omega) (by omega) (by omega) (by omega)
  refine ⟨isZ l && isZ l', ⟨cr_ok ha hb, fun _ => ⟨ha.s.w.mono (by omega), hb.s.w.mono (by omega), ?_, ?_, ?_, ?_, ?_, ?_, f, l, f', l', k1, j1, rfl⟩, fun z => absurd z D, fun z => absurd z D⟩, ?_⟩
  · exact tm_sz 3 t.c t.bo (by omega) (by omega) (by omega) (by omega) (by omega) (by omega)
  · exact tm_sz 3 t.o t.ao (by omega) (by omega) (by omega) (by omega) (by omega) (by omega)
  · exact ls_sz (t.c.mul t.bo (w := 3) (by omega)) (t.o.mul t.ao (w := 3) (by omega)) (by omega) (by omega) (by omega) (by omega) (by omega) (by omega)
  · exact tm_sz 3 t.o t.ae (by omega) (by omega) (by omega) (by omega) (by omega) (by omega)
  · exact tm_sz 3 t.c t.be (by omega) (by omega) (by omega) (by omega) (by omega) (by omega)
  · exact ls_sz (t.o.mul t.ae (w := 3) (by omega)) (t.c.mul t.be (w := 3) (by omega)) (by omega) (by omega) (by omega) (by omega) (by omega) (by omega)
  · rw [show FitsR a b c o ↔ _ from fits_tell D, Bool.and_eq_true, isZ_iff, isZ_iff, k6, j6]
theorem lead_tell {a b c o : L} (t : Tel a b c o) (D : even a * odd b - odd a * even b ≠ 0) : ∃ res, Lead a b c o res := by
  have dp := width_pos D
  have res_some : ∀ p : L × L, (match quo (c * odd b - o * odd a) (even a * odd b - odd a * even b), quo (even a * o - even b * c) (even a * odd b - odd a * even b) with | some x, some y => some (x, y) | _, _ => none) = some p ↔ p.1 * (even a * odd b - odd a * even b) = c * odd b - o * odd a ∧ p.2 * (even a * odd b - odd a * even b) = even a * o - even b * c := fun p => by
    cases h1 : quo (c * odd b - o * odd a) (even a * odd b - odd a * even b) with
    | none => exact ⟨fun z => (nomatch z), fun z => by rw [quo_some D z.1] at h1; cases h1⟩
    | some x =>
      cases h2 : quo (even a * o - even b * c) (even a * odd b - odd a * even b) with
      | none => exact ⟨fun z => (nomatch z), fun z => by rw [quo_some D z.2] at h2; cases h2⟩
      | some y =>
        constructor
        · intro z
          cases Option.some.inj z
          exact ⟨quo_mul h1, quo_mul h2⟩
        · rintro ⟨z1, z2⟩
          rw [quo_some D z1] at h1
          rw [quo_some D z2] at h2
          cases h1
          cases h2
          rfl
  have lead : ∀ p : L × L, (match quo (c * odd b - o * odd a) (even a * odd b - odd a * even b), quo (even a * o - even b * c) (even a * odd b - odd a * even b) with | some x, some y => some (x, y) | _, _ => none) = some p → p.1 * even a + p.2 * odd a = c ∧ p.1 * even b + p.2 * odd b = o ∧ Sz 1500 1700 30 61 p.1 ∧ Sz 1500 1700 30 61 p.2 := fun p h => by
    obtain ⟨e1, e2⟩ := (res_some p).mp h
    have e2' : p.2 * (even a * odd b - odd a * even b) = o * even a - c * even b := by rw [e2]; grind
    obtain ⟨l1, l2⟩ := tell_leads D e1 e2'
    exact ⟨l1, l2, (quot_sz 15 t.n1 t.dt (by omega) D (by omega) e1).mono (by omega) (by omega) (by omega) (by omega), (quot_sz 15 t.n2 t.dt (by omega) D (by omega) e2).mono (by omega) (by omega) (by omega) (by omega)⟩
  refine ⟨_, ⟨fun z => absurd z D, fun _ => ⟨?_, ?_, ?_, ?_, ?_, ?_, ?_, ?_, ?_, ?_, ?_, rfl⟩, fun p h => ?_⟩, ?_, lead⟩
  · exact pr_sz 1 t.ae t.bo (by omega) (by omega) (by omega) (by omega) (by omega)
  · exact pr_sz 1 t.ao t.be (by omega) (by omega) (by omega) (by omega) (by omega)
  · exact sb_sz (t.ae.mul t.bo (w := 1) (by omega)) (t.ao.mul t.be (w := 1) (by omega)) (by omega) (by omega) (by omega) (by omega) (by omega) (by omega)
  · exact pr_sz 3 t.c t.bo (by omega) (by omega) (by omega) (by omega) (by omega)
  · exact pr_sz 3 t.o t.ao (by omega) (by omega) (by omega) (by omega) (by omega)
  · exact sb_sz (t.c.mul t.bo (w := 3) (by omega)) (t.o.mul t.ao (w := 3) (by omega)) (by omega) (by omega) (by omega) (by omega) (by omega) (by omega)
  · exact pr_sz 1 t.ae t.o (by omega) (by omega) (by omega) (by omega) (by omega)
  · exact pr_sz 1 t.be t.c (by omega) (by omega) (by omega) (by omega) (by omega)
  · exact sb_sz (t.ae.mul t.o (w := 1) (by omega)) (t.be.mul t.c (w := 1) (by omega)) (by omega) (by omega) (by omega) (by omega) (by omega) (by omega)
  · exact dq_sz 15 t.n1 t.dt (by omega) D (by omega) (by omega) (by omega) (by omega) (by omega)
  · exact dq_sz 15 t.n2 t.dt (by omega) D (by omega) (by omega) (by omega) (by omega) (by omega)
  · obtain ⟨_, _, s1, s2⟩ := lead p h
    exact ⟨s1.w.mono (by omega), s2.w.mono (by omega), s1.sm (by omega) (by omega), s2.sm (by omega) (by omega)⟩
  · rw [fits_tellR D]
    constructor
    · intro h
      obtain ⟨p, hp⟩ := Option.isSome_iff_exists.mp h
      obtain ⟨e1, e2⟩ := (res_some p).mp hp
      exact ⟨⟨_, e1⟩, ⟨_, e2⟩⟩
    · rintro ⟨⟨x, e1⟩, ⟨y, e2⟩⟩
      exact Option.isSome_iff_exists.mpr ⟨(x, y), (res_some (x, y)).mpr ⟨e1, e2⟩⟩
/-! ### one turn -/
theorem tel_of {a b c o f : L} (ha : NearOk 4 a) (hb : NearOk 4 b) (hf : FilOk f) (hc : ChEnt (chan f a) c) (ho : ChEnt (chan f b) o) : Tel a b c o :=
  ⟨(near4 ha).even, (near4 ha).odd, (near4 hb).even, (near4 hb).odd, ent_sz4 (ch_sz4 hf ha) hc, ent_sz4 (ch_sz4 hf hb) ho⟩
theorem both_of {a b c o f : L} (tw : TwoOk (a, b)) (hf : FilOk f) (hc : ChEnt (chan f a) c) (ho : ChEnt (chan f b) o) : ∃ r res, FitOk a b c o r ∧ Lead a b c o res ∧ res.isSome = r := by
  have ra := tw.ra
  have rb := tw.rb
  have key : ∀ {r : Bool} {res : Option (L × L)}, (r = true ↔ FitsR a b c o) → (res.isSome = true ↔ FitsR a b c o) → res.isSome = r := fun {r res} h1 h2 => by
    have : res.isSome = true ↔ r = true := h2.trans h1.symm
    cases hr : r <;> cases hs : res.isSome <;> simp_all
  by_cases D : even a * odd b - odd a * even b = 0
  · obtain ⟨r, h1, h2⟩ := fit_along (row_par ra) (row_par rb) (ent_sz (ch_sz hf ra) hc) (ent_sz (ch_sz hf rb) ho) D
    obtain ⟨res, h3⟩ := lead_along (row_par ra) (row_par rb) (ent_sz (ch_sz hf ra) hc) (ent_sz (ch_sz hf rb) ho) D
    exact ⟨r, res, h1, h3, key h2 h3.iff⟩
  · have t : Tel a b c o := by
      rcases tw with h | h
      · exact tel_of h.1 h.2 hf hc ho
      · exact absurd h.2.2 D
    obtain ⟨r, h1, h2⟩ := fit_tell (row_par ra) (row_par rb) t D
    obtain ⟨res, h3⟩ := lead_tell t D
    exact ⟨r, res, h1, h3, key h2 h3.iff⟩
theorem co_weave (p q : L) (k : Int) : (weave p q).co k = if k % 2 = 0 then p.co (k / 2) else q.co ((k - 1) / 2) := by
  unfold weave
  rw [co_add, co_spread, co_later, co_spread]
  by_cases e : k % 2 = 0
  · rw [if_pos e, if_pos e, if_neg (by omega)]
    grind
  · rw [if_neg e, if_neg e, if_pos (by omega)]
    grind
theorem tell_n {d e : Nat} {p : L} (h : Hb d e p) (hd : d < 1900) (he : e < 1900) (k : Int) : TellN (p.co k) := by
  obtain ⟨m, h1, h2⟩ := h
  obtain ⟨n, n1, n2⟩ := h2.2 k
  obtain ⟨a, b⟩ := num_den_le h2.1 n1
  exact ⟨Nat.lt_of_le_of_lt (Nat.le_trans b n2) (Nat.pow_lt_pow_right (by decide) he), Nat.lt_of_le_of_lt (Nat.le_trans a h1) (Nat.pow_lt_pow_right (by decide) hd)⟩
theorem led_w {p q : L} (hp : W 30 p) (hq : W 30 q) : W 61 (led (p, q)) := fun k hk => by
  unfold led at hk
  rw [co_weave] at hk
  split at hk
  · have := hp _ hk
    omega
  · rw [co_later] at hk
    have := hq _ hk
    omega
/-- what is told -/
theorem led_sz {p q : L} (hp : Sz 1500 1700 30 61 p) (hq : Sz 1500 1700 30 61 q) : TellP (led (p, q)) ∧ Sz 3000 3201 61 123 (led (p, q)) := by
  have hw := led_w hp.w hq.w
  refine ⟨⟨fun k => ?_, hw.mono (by omega)⟩, ?_, hw, width_w (a := 61) hw⟩
  · show TellN ((weave p (later (-1) q)).co k)
    rw [co_weave]
    split
    · exact tell_n hp.hb (by omega) (by omega) _
    · rw [co_later]
      exact tell_n hq.hb (by omega) (by omega) _
  · exact (hp.hb.spread.add (((hq.hb.later (-1)).spread).later 1)).mono (by omega) (by omega)
theorem led_chan {p q x : L} : chan (led (p, q)) x = p * even x + q * odd x := by
  unfold led
  rw [chan_eq, even_weave, odd_weave, later_later]
  have : later (1 + -1) q = q := by
    rw [show (1 : Int) + -1 = 0 by omega]
    exact later_zero' q
  rw [this]
theorem led_parts (f : L) : led (even f, later 1 (odd f)) = f := by
  unfold led
  rw [later_later, show (-1 : Int) + 1 = 0 by omega, later_zero', weave_parts]
end K65

/-! K65MG: what the numbers owe -/
namespace K65
theorem turn_ok {a b f0 f1 c0 c1 o0 o1 : L} {s : Bool} (T : TurnIn a b f0 f1 c0 c1 o0 o1 s) : ∃ r0 r1 res res', TurnOk a b f0 f1 c0 c1 o0 o1 s r0 r1 res res' := by
  obtain ⟨r0, res, F0, L0, i0⟩ := both_of T.two T.h0 T.e0 T.e2
  obtain ⟨r1, res', F1, L1, i1⟩ := both_of T.two T.h1 T.e1 T.e3
  have pa := row_par T.ra
  have pb := row_par T.rb
  have sf0 := fil_sz T.h0
  have sf1 := fil_sz T.h1
  have s0 := ent_sz (ch_sz T.h0 T.ra) T.e0
  have s1 := ent_sz (ch_sz T.h1 T.ra) T.e1
  have s2 := ent_sz (ch_sz T.h0 T.rb) T.e2
  have s3 := ent_sz (ch_sz T.h1 T.rb) T.e3
  have told : ∀ t0 t1, toldOf res res' = some (t0, t1) → ∃ p q, res = some p ∧ res' = some q ∧ t0 = led p ∧ t1 = led q := fun t0 t1 h => by
    cases res with
    | none => cases h
    | some p =>
      cases res' with
      | none => cases h
      | some q =>
        cases h
        exact ⟨p, q, rfl, rfl, rfl, rfl⟩
  refine ⟨r0, r1, res, res', {
    wa := pa.s.w.mono (by omega)
    wb := pb.s.w.mono (by omega)
    fit0 := F0
    fit1 := F1
    sp := ⟨⟨pa.s.w.mono (by omega), pb.s.w.mono (by omega), pr_sz 2 pa.e pb.o (by omega) (by omega) (by omega) (by omega) (by omega), pr_sz 2 pa.o pb.e (by omega) (by omega) (by omega) (by omega) (by omega), sb_sz (pa.e.mul pb.o (w := 2) (by omega)) (pa.o.mul pb.e (w := 2) (by omega)) (by omega) (by omega) (by omega) (by omega) (by omega) (by omega), L0.lead, L1.lead⟩, ⟨s0.w.mono (by omega), s1.w.mono (by omega)⟩, ⟨s2.w.mono (by omega), s3.w.mono (by omega)⟩⟩
    told := ?_
    sh := ?_
    led := fun t0 t1 h => ?_
    cr := cr_ok pa pb
    uniq := fun hs D => ?_
    wf := ⟨sf0.w.mono (by omega), sf1.w.mono (by omega)⟩ }⟩
  · rw [← i0, ← i1]
    cases res <;> cases res' <;> rfl
  · cases h : toldOf res res' with
    | none => exact sh_none
    | some t =>
      obtain ⟨t0, t1⟩ := t
      obtain ⟨p, q, e1, e2, rfl, rfl⟩ := told t0 t1 h
      obtain ⟨_, _, p1, p2⟩ := L0.leads p e1
      obtain ⟨_, _, q1, q2⟩ := L1.leads q e2
      exact sh_pair (led_sz p1 p2).1 (led_sz q1 q2).1
  · obtain ⟨p, q, e1, e2, rfl, rfl⟩ := told t0 t1 h
    obtain ⟨pl, pl', p1, p2⟩ := L0.leads p e1
    obtain ⟨ql, ql', q1, q2⟩ := L1.leads q e2
    have sp := (led_sz p1 p2).2
    have sq := (led_sz q1 q2).2
    have tm : ∀ {t x : L}, Sz 3000 3201 61 123 t → Par x → TmOk t x := fun h1 h2 => tm_sz 7 h1 h2.s (by omega) (by omega) (by omega) (by omega) (by omega) (by omega)
    refine ⟨⟨sp.w.mono (by omega), sq.w.mono (by omega), tm sp pa, tm sq pa, ?_, ?_⟩, ⟨sp.w.mono (by omega), sq.w.mono (by omega), tm sp pb, tm sq pb, ?_, ?_⟩⟩
    · exact led_chan.trans pl
    · exact led_chan.trans ql
    · exact led_chan.trans pl'
    · exact led_chan.trans ql'
  · obtain ⟨h1, h2, h3, h4⟩ := T.eq hs
    have one : ∀ {f c o : L} {res : Option (L × L)}, Lead a b c o res → c = chan f a → o = chan f b → res = some (even f, later 1 (odd f)) := fun {f c o res} Le ec eo => by
      rw [chan_eq] at ec eo
      have fit : FitsR a b c o := ⟨even f, later 1 (odd f), ec.symm, eo.symm⟩
      obtain ⟨p, hp⟩ := Option.isSome_iff_exists.mp (Le.iff.mpr fit)
      obtain ⟨l1, l2, _, _⟩ := Le.leads p hp
      obtain ⟨u1, u2⟩ := tell_uniq D (l1.trans ec) (l2.trans eo)
      rw [hp, ← u1, ← u2]
    rw [one L0 h1 h3, one L1 h2 h4]
    show some (led (even f0, later 1 (odd f0)), led (even f1, later 1 (odd f1))) = _
    rw [led_parts, led_parts]
theorem math_ok : MathOk := ⟨fun hf ha => m_tm hf ha, fun hf ha => m_ent hf ha, fun T => turn_ok T⟩
end K65

open PySem PySem.W PyProof.Rows
set_option maxHeartbeats 0 in
theorem PySem.Challenge.cw_bandsplits_k65_whole_channels_of_two_row_holds : PySem.Challenge.rw_bandsplits_k65_whole_channels_of_two_row.Holds := by
  w_on; o_law; k_head; (case hw => w_witness2)
  k_fill
  refine K65.walk_ofG (l := PySem.Challenge.rw_bandsplits_k65_whole_channels_of_two_row) (n := 63) (k := 12) (x := "_law_script") rfl (by decide) rfl ⟨rfl, by decide, by decide⟩ (fun w h Y => PySem.W.kIn_of Y) ?F
  case F =>
    intro w mg fa h KX G hmg
    have f_is_whole : K65.FnF (L2.KOf KX) mg "is_whole" 6 ["value"] := by refine' K65.fnF_mk KX G ?a ?l ?c ?k ?b; (case a => k_is); (case l => k_is); (case c => k_is); (case k => k_is); (case b => exact fun _ _ _ _ _ _ us hl => match us, hl with | [_], _ => rfl)
    have f_are_wholes : K65.FnF (L2.KOf KX) mg "are_wholes" 7 ["value", "many"] := by refine' K65.fnF_mk KX G ?a ?l ?c ?k ?b; (case a => k_is); (case l => k_is); (case c => k_is); (case k => k_is); (case b => exact fun _ _ _ _ _ _ us hl => match us, hl with | [_, _], _ => rfl)
    have f_divisor_of : K65.FnF (L2.KOf KX) mg "divisor_of" 8 ["numbers"] := by refine' K65.fnF_mk KX G ?a ?l ?c ?k ?b; (case a => k_is); (case l => k_is); (case c => k_is); (case k => k_is); (case b => exact fun _ _ _ _ _ _ us hl => match us, hl with | [_], _ => rfl)
    have f_is_ratio : K65.FnF (L2.KOf KX) mg "is_ratio" 12 ["value"] := by refine' K65.fnF_mk KX G ?a ?l ?c ?k ?b; (case a => k_is); (case l => k_is); (case c => k_is); (case k => k_is); (case b => exact fun _ _ _ _ _ _ us hl => match us, hl with | [_], _ => rfl)
    have f_ratio : K65.FnF (L2.KOf KX) mg "ratio" 13 ["top", "low"] := by refine' K65.fnF_mk KX G ?a ?l ?c ?k ?b; (case a => k_is); (case l => k_is); (case c => k_is); (case k => k_is); (case b => exact fun _ _ _ _ _ _ us hl => match us, hl with | [_, _], _ => rfl)
    have f_plus : K65.FnF (L2.KOf KX) mg "plus" 14 ["one", "two"] := by refine' K65.fnF_mk KX G ?a ?l ?c ?k ?b; (case a => k_is); (case l => k_is); (case c => k_is); (case k => k_is); (case b => exact fun _ _ _ _ _ _ us hl => match us, hl with | [_, _], _ => rfl)
    have f_minus : K65.FnF (L2.KOf KX) mg "minus" 15 ["one", "two"] := by refine' K65.fnF_mk KX G ?a ?l ?c ?k ?b; (case a => k_is); (case l => k_is); (case c => k_is); (case k => k_is); (case b => exact fun _ _ _ _ _ _ us hl => match us, hl with | [_, _], _ => rfl)
    have f_times : K65.FnF (L2.KOf KX) mg "times" 16 ["one", "two"] := by refine' K65.fnF_mk KX G ?a ?l ?c ?k ?b; (case a => k_is); (case l => k_is); (case c => k_is); (case k => k_is); (case b => exact fun _ _ _ _ _ _ us hl => match us, hl with | [_, _], _ => rfl)
    have f_over : K65.FnF (L2.KOf KX) mg "over" 17 ["one", "two"] := by refine' K65.fnF_mk KX G ?a ?l ?c ?k ?b; (case a => k_is); (case l => k_is); (case c => k_is); (case k => k_is); (case b => exact fun _ _ _ _ _ _ us hl => match us, hl with | [_, _], _ => rfl)
    have f_row_by : K65.FnF (L2.KOf KX) mg "row_by" 21 ["start", "numbers"] := by refine' K65.fnF_mk KX G ?a ?l ?c ?k ?b; (case a => k_is); (case l => k_is); (case c => k_is); (case k => k_is); (case b => exact fun _ _ _ _ _ _ us hl => match us, hl with | [_, _], _ => rfl)
    have f_end_of : K65.FnF (L2.KOf KX) mg "end_of" 22 ["row"] := by refine' K65.fnF_mk KX G ?a ?l ?c ?k ?b; (case a => k_is); (case l => k_is); (case c => k_is); (case k => k_is); (case b => exact fun _ _ _ _ _ _ us hl => match us, hl with | [_], _ => rfl)
    have f_at_place : K65.FnF (L2.KOf KX) mg "at_place" 23 ["row", "place"] := by refine' K65.fnF_mk KX G ?a ?l ?c ?k ?b; (case a => k_is); (case l => k_is); (case c => k_is); (case k => k_is); (case b => exact fun _ _ _ _ _ _ us hl => match us, hl with | [_, _], _ => rfl)
    have f_row_sum : K65.FnF (L2.KOf KX) mg "row_sum" 24 ["one", "two"] := by refine' K65.fnF_mk KX G ?a ?l ?c ?k ?b; (case a => k_is); (case l => k_is); (case c => k_is); (case k => k_is); (case b => exact fun _ _ _ _ _ _ us hl => match us, hl with | [_, _], _ => rfl)
    have f_row_scaled : K65.FnF (L2.KOf KX) mg "row_scaled" 25 ["row", "number"] := by refine' K65.fnF_mk KX G ?a ?l ?c ?k ?b; (case a => k_is); (case l => k_is); (case c => k_is); (case k => k_is); (case b => exact fun _ _ _ _ _ _ us hl => match us, hl with | [_, _], _ => rfl)
    have f_row_less : K65.FnF (L2.KOf KX) mg "row_less" 26 ["one", "two"] := by refine' K65.fnF_mk KX G ?a ?l ?c ?k ?b; (case a => k_is); (case l => k_is); (case c => k_is); (case k => k_is); (case b => exact fun _ _ _ _ _ _ us hl => match us, hl with | [_, _], _ => rfl)
    have f_row_shift : K65.FnF (L2.KOf KX) mg "row_shift" 27 ["row", "places"] := by refine' K65.fnF_mk KX G ?a ?l ?c ?k ?b; (case a => k_is); (case l => k_is); (case c => k_is); (case k => k_is); (case b => exact fun _ _ _ _ _ _ us hl => match us, hl with | [_, _], _ => rfl)
    have f_row_product : K65.FnF (L2.KOf KX) mg "row_product" 28 ["one", "two"] := by refine' K65.fnF_mk KX G ?a ?l ?c ?k ?b; (case a => k_is); (case l => k_is); (case c => k_is); (case k => k_is); (case b => exact fun _ _ _ _ _ _ us hl => match us, hl with | [_, _], _ => rfl)
    have f_part_from : K65.FnF (L2.KOf KX) mg "part_from" 29 ["row", "first"] := by refine' K65.fnF_mk KX G ?a ?l ?c ?k ?b; (case a => k_is); (case l => k_is); (case c => k_is); (case k => k_is); (case b => exact fun _ _ _ _ _ _ us hl => match us, hl with | [_, _], _ => rfl)
    have f_even_of : K65.FnF (L2.KOf KX) mg "even_of" 30 ["row"] := by refine' K65.fnF_mk KX G ?a ?l ?c ?k ?b; (case a => k_is); (case l => k_is); (case c => k_is); (case k => k_is); (case b => exact fun _ _ _ _ _ _ us hl => match us, hl with | [_], _ => rfl)
    have f_odd_of : K65.FnF (L2.KOf KX) mg "odd_of" 31 ["row"] := by refine' K65.fnF_mk KX G ?a ?l ?c ?k ?b; (case a => k_is); (case l => k_is); (case c => k_is); (case k => k_is); (case b => exact fun _ _ _ _ _ _ us hl => match us, hl with | [_], _ => rfl)
    have f_spread_out : K65.FnF (L2.KOf KX) mg "spread_out" 32 ["row"] := by refine' K65.fnF_mk KX G ?a ?l ?c ?k ?b; (case a => k_is); (case l => k_is); (case c => k_is); (case k => k_is); (case b => exact fun _ _ _ _ _ _ us hl => match us, hl with | [_], _ => rfl)
    have f_weave : K65.FnF (L2.KOf KX) mg "weave" 33 ["even", "odd"] := by refine' K65.fnF_mk KX G ?a ?l ?c ?k ?b; (case a => k_is); (case l => k_is); (case c => k_is); (case k => k_is); (case b => exact fun _ _ _ _ _ _ us hl => match us, hl with | [_, _], _ => rfl)
    have f_row_divided : K65.FnF (L2.KOf KX) mg "row_divided" 34 ["one", "two"] := by refine' K65.fnF_mk KX G ?a ?l ?c ?k ?b; (case a => k_is); (case l => k_is); (case c => k_is); (case k => k_is); (case b => exact fun _ _ _ _ _ _ us hl => match us, hl with | [_, _], _ => rfl)
    have f_row_quotient : K65.FnF (L2.KOf KX) mg "row_quotient" 35 ["one", "two"] := by refine' K65.fnF_mk KX G ?a ?l ?c ?k ?b; (case a => k_is); (case l => k_is); (case c => k_is); (case k => k_is); (case b => exact fun _ _ _ _ _ _ us hl => match us, hl with | [_, _], _ => rfl)
    have f_is_laid : K65.FnF (L2.KOf KX) mg "is_laid" 37 ["value"] := by refine' K65.fnF_mk KX G ?a ?l ?c ?k ?b; (case a => k_is); (case l => k_is); (case c => k_is); (case k => k_is); (case b => exact fun _ _ _ _ _ _ us hl => match us, hl with | [_], _ => rfl)
    have f_check_row : K65.FnF (L2.KOf KX) mg "check_row" 38 ["value"] := by refine' K65.fnF_mk KX G ?a ?l ?c ?k ?b; (case a => k_is); (case l => k_is); (case c => k_is); (case k => k_is); (case b => exact fun _ _ _ _ _ _ us hl => match us, hl with | [_], _ => rfl)
    have f_splitter_from : K65.FnF (L2.KOf KX) mg "splitter_from" 40 ["table"] := by refine' K65.fnF_mk KX G ?a ?l ?c ?k ?b; (case a => k_is); (case l => k_is); (case c => k_is); (case k => k_is); (case b => exact fun _ _ _ _ _ _ us hl => match us, hl with | [_], _ => rfl)
    have f_check_channels : K65.FnF (L2.KOf KX) mg "check_channels" 42 ["value"] := by refine' K65.fnF_mk KX G ?a ?l ?c ?k ?b; (case a => k_is); (case l => k_is); (case c => k_is); (case k => k_is); (case b => exact fun _ _ _ _ _ _ us hl => match us, hl with | [_], _ => rfl)
    have f_factors_for : K65.FnF (L2.KOf KX) mg "factors_for" 44 ["one", "two"] := by refine' K65.fnF_mk KX G ?a ?l ?c ?k ?b; (case a => k_is); (case l => k_is); (case c => k_is); (case k => k_is); (case b => exact fun _ _ _ _ _ _ us hl => match us, hl with | [_, _], _ => rfl)
    have f_pair_determinant : K65.FnF (L2.KOf KX) mg "pair_determinant" 45 ["row", "other"] := by refine' K65.fnF_mk KX G ?a ?l ?c ?k ?b; (case a => k_is); (case l => k_is); (case c => k_is); (case k => k_is); (case b => exact fun _ _ _ _ _ _ us hl => match us, hl with | [_, _], _ => rfl)
    have f_parts_of : K65.FnF (L2.KOf KX) mg "parts_of" 48 ["row"] := by refine' K65.fnF_mk KX G ?a ?l ?c ?k ?b; (case a => k_is); (case l => k_is); (case c => k_is); (case k => k_is); (case b => exact fun _ _ _ _ _ _ us hl => match us, hl with | [_], _ => rfl)
    have f_table_row : K65.FnF (L2.KOf KX) mg "table_row" 49 ["channel", "parts"] := by refine' K65.fnF_mk KX G ?a ?l ?c ?k ?b; (case a => k_is); (case l => k_is); (case c => k_is); (case k => k_is); (case b => exact fun _ _ _ _ _ _ us hl => match us, hl with | [_, _], _ => rfl)
    have f_splitter_by_rows : K65.FnF (L2.KOf KX) mg "splitter_by_rows" 50 ["rows"] := by refine' K65.fnF_mk KX G ?a ?l ?c ?k ?b; (case a => k_is); (case l => k_is); (case c => k_is); (case k => k_is); (case b => exact fun _ _ _ _ _ _ us hl => match us, hl with | [_], _ => rfl)
    have f_row_by_both : K65.FnF (L2.KOf KX) mg "row_by_both" 51 ["channel", "other", "mine", "its"] := by refine' K65.fnF_mk KX G ?a ?l ?c ?k ?b; (case a => k_is); (case l => k_is); (case c => k_is); (case k => k_is); (case b => exact fun _ _ _ _ _ _ us hl => match us, hl with | [_, _, _, _], _ => rfl)
    have f_lone_direction : K65.FnF (L2.KOf KX) mg "lone_direction" 52 ["mine", "its"] := by refine' K65.fnF_mk KX G ?a ?l ?c ?k ?b; (case a => k_is); (case l => k_is); (case c => k_is); (case k => k_is); (case b => exact fun _ _ _ _ _ _ us hl => match us, hl with | [_, _], _ => rfl)
    have f_times_of : K65.FnF (L2.KOf KX) mg "times_of" 53 ["pair", "lone"] := by refine' K65.fnF_mk KX G ?a ?l ?c ?k ?b; (case a => k_is); (case l => k_is); (case c => k_is); (case k => k_is); (case b => exact fun _ _ _ _ _ _ us hl => match us, hl with | [_, _], _ => rfl)
    have f_row_along : K65.FnF (L2.KOf KX) mg "row_along" 54 ["channel", "other", "mine", "its"] := by refine' K65.fnF_mk KX G ?a ?l ?c ?k ?b; (case a => k_is); (case l => k_is); (case c => k_is); (case k => k_is); (case b => exact fun _ _ _ _ _ _ us hl => match us, hl with | [_, _, _, _], _ => rfl)
    have f_read_by : K65.FnF (L2.KOf KX) mg "read_by" 55 ["row", "channels", "other", "others"] := by refine' K65.fnF_mk KX G ?a ?l ?c ?k ?b; (case a => k_is); (case l => k_is); (case c => k_is); (case k => k_is); (case b => exact fun _ _ _ _ _ _ us hl => match us, hl with | [_, _, _, _], _ => rfl)
    have f_splitter_read : K65.FnF (L2.KOf KX) mg "splitter_read" 56 ["row", "channels", "other", "others"] := by refine' K65.fnF_mk KX G ?a ?l ?c ?k ?b; (case a => k_is); (case l => k_is); (case c => k_is); (case k => k_is); (case b => exact fun _ _ _ _ _ _ us hl => match us, hl with | [_, _, _, _], _ => rfl)
    have f__law_well : K65.FnF (L2.KOf KX) mg "_law_well" 58 ["_law_script", "_law_turn"] := by refine' K65.fnF_mk KX G ?a ?l ?c ?k ?b; (case a => k_is); (case l => k_is); (case c => k_is); (case k => k_is); (case b => exact fun _ _ _ _ _ _ us hl => match us, hl with | [_, _], _ => rfl)
    have f__law_take : K65.FnF (L2.KOf KX) mg "_law_take" 59 ["_law_well_here", "_law_count"] := by refine' K65.fnF_mk KX G ?a ?l ?c ?k ?b; (case a => k_is); (case l => k_is); (case c => k_is); (case k => k_is); (case b => exact fun _ _ _ _ _ _ us hl => match us, hl with | [_, _], _ => rfl)
    have f__law_pick : K65.FnF (L2.KOf KX) mg "_law_pick" 60 ["_law_well_here", "_law_some"] := by refine' K65.fnF_mk KX G ?a ?l ?c ?k ?b; (case a => k_is); (case l => k_is); (case c => k_is); (case k => k_is); (case b => exact fun _ _ _ _ _ _ us hl => match us, hl with | [_, _], _ => rfl)
    have f__law_rounds : K65.FnF (L2.KOf KX) mg "_law_rounds" 61 ["_law_script"] := by refine' K65.fnF_mk KX G ?a ?l ?c ?k ?b; (case a => k_is); (case l => k_is); (case c => k_is); (case k => k_is); (case b => exact fun _ _ _ _ _ _ us hl => match us, hl with | [_], _ => rfl)
    have f__law_common : K65.FnF (L2.KOf KX) mg "_law_common" 62 ["_law_one", "_law_two_here"] := by refine' K65.fnF_mk KX G ?a ?l ?c ?k ?b; (case a => k_is); (case l => k_is); (case c => k_is); (case k => k_is); (case b => exact fun _ _ _ _ _ _ us hl => match us, hl with | [_, _], _ => rfl)
    have f__law_ratio : K65.FnF (L2.KOf KX) mg "_law_ratio" 63 ["_law_n", "_law_m"] := by refine' K65.fnF_mk KX G ?a ?l ?c ?k ?b; (case a => k_is); (case l => k_is); (case c => k_is); (case k => k_is); (case b => exact fun _ _ _ _ _ _ us hl => match us, hl with | [_, _], _ => rfl)
    have f__law_sum : K65.FnF (L2.KOf KX) mg "_law_sum" 64 ["_law_a", "_law_b"] := by refine' K65.fnF_mk KX G ?a ?l ?c ?k ?b; (case a => k_is); (case l => k_is); (case c => k_is); (case k => k_is); (case b => exact fun _ _ _ _ _ _ us hl => match us, hl with | [_, _], _ => rfl)
    have f__law_product : K65.FnF (L2.KOf KX) mg "_law_product" 65 ["_law_a", "_law_b"] := by refine' K65.fnF_mk KX G ?a ?l ?c ?k ?b; (case a => k_is); (case l => k_is); (case c => k_is); (case k => k_is); (case b => exact fun _ _ _ _ _ _ us hl => match us, hl with | [_, _], _ => rfl)
    have f__law_over : K65.FnF (L2.KOf KX) mg "_law_over" 66 ["_law_a", "_law_b"] := by refine' K65.fnF_mk KX G ?a ?l ?c ?k ?b; (case a => k_is); (case l => k_is); (case c => k_is); (case k => k_is); (case b => exact fun _ _ _ _ _ _ us hl => match us, hl with | [_, _], _ => rfl)
    have f__law_lot : K65.FnF (L2.KOf KX) mg "_law_lot" 67 ["_law_line_here"] := by refine' K65.fnF_mk KX G ?a ?l ?c ?k ?b; (case a => k_is); (case l => k_is); (case c => k_is); (case k => k_is); (case b => exact fun _ _ _ _ _ _ us hl => match us, hl with | [_], _ => rfl)
    have f__law_cleared : K65.FnF (L2.KOf KX) mg "_law_cleared" 68 ["_law_lot_here"] := by refine' K65.fnF_mk KX G ?a ?l ?c ?k ?b; (case a => k_is); (case l => k_is); (case c => k_is); (case k => k_is); (case b => exact fun _ _ _ _ _ _ us hl => match us, hl with | [_], _ => rfl)
    have f__law_line : K65.FnF (L2.KOf KX) mg "_law_line" 69 ["_law_lot_here"] := by refine' K65.fnF_mk KX G ?a ?l ?c ?k ?b; (case a => k_is); (case l => k_is); (case c => k_is); (case k => k_is); (case b => exact fun _ _ _ _ _ _ us hl => match us, hl with | [_], _ => rfl)
    have f__law_plus : K65.FnF (L2.KOf KX) mg "_law_plus" 70 ["_law_one", "_law_two_here"] := by refine' K65.fnF_mk KX G ?a ?l ?c ?k ?b; (case a => k_is); (case l => k_is); (case c => k_is); (case k => k_is); (case b => exact fun _ _ _ _ _ _ us hl => match us, hl with | [_, _], _ => rfl)
    have f__law_times : K65.FnF (L2.KOf KX) mg "_law_times" 71 ["_law_one", "_law_two_here"] := by refine' K65.fnF_mk KX G ?a ?l ?c ?k ?b; (case a => k_is); (case l => k_is); (case c => k_is); (case k => k_is); (case b => exact fun _ _ _ _ _ _ us hl => match us, hl with | [_, _], _ => rfl)
    have f__law_scaled : K65.FnF (L2.KOf KX) mg "_law_scaled" 72 ["_law_lot_here", "_law_by"] := by refine' K65.fnF_mk KX G ?a ?l ?c ?k ?b; (case a => k_is); (case l => k_is); (case c => k_is); (case k => k_is); (case b => exact fun _ _ _ _ _ _ us hl => match us, hl with | [_, _], _ => rfl)
    have f__law_less : K65.FnF (L2.KOf KX) mg "_law_less" 73 ["_law_one", "_law_two_here"] := by refine' K65.fnF_mk KX G ?a ?l ?c ?k ?b; (case a => k_is); (case l => k_is); (case c => k_is); (case k => k_is); (case b => exact fun _ _ _ _ _ _ us hl => match us, hl with | [_, _], _ => rfl)
    have f__law_later : K65.FnF (L2.KOf KX) mg "_law_later" 74 ["_law_lot_here", "_law_by"] := by refine' K65.fnF_mk KX G ?a ?l ?c ?k ?b; (case a => k_is); (case l => k_is); (case c => k_is); (case k => k_is); (case b => exact fun _ _ _ _ _ _ us hl => match us, hl with | [_, _], _ => rfl)
    have f__law_spread : K65.FnF (L2.KOf KX) mg "_law_spread" 75 ["_law_lot_here"] := by refine' K65.fnF_mk KX G ?a ?l ?c ?k ?b; (case a => k_is); (case l => k_is); (case c => k_is); (case k => k_is); (case b => exact fun _ _ _ _ _ _ us hl => match us, hl with | [_], _ => rfl)
    have f__law_part : K65.FnF (L2.KOf KX) mg "_law_part" 76 ["_law_lot_here", "_law_odd"] := by refine' K65.fnF_mk KX G ?a ?l ?c ?k ?b; (case a => k_is); (case l => k_is); (case c => k_is); (case k => k_is); (case b => exact fun _ _ _ _ _ _ us hl => match us, hl with | [_, _], _ => rfl)
    have f__law_channel : K65.FnF (L2.KOf KX) mg "_law_channel" 77 ["_law_filtering", "_law_lot_here"] := by refine' K65.fnF_mk KX G ?a ?l ?c ?k ?b; (case a => k_is); (case l => k_is); (case c => k_is); (case k => k_is); (case b => exact fun _ _ _ _ _ _ us hl => match us, hl with | [_, _], _ => rfl)
    have f__law_crossed : K65.FnF (L2.KOf KX) mg "_law_crossed" 78 ["_law_one", "_law_two_here"] := by refine' K65.fnF_mk KX G ?a ?l ?c ?k ?b; (case a => k_is); (case l => k_is); (case c => k_is); (case k => k_is); (case b => exact fun _ _ _ _ _ _ us hl => match us, hl with | [_, _], _ => rfl)
    have f__law_lines : K65.FnF (L2.KOf KX) mg "_law_lines" 79 ["_law_pair"] := by refine' K65.fnF_mk KX G ?a ?l ?c ?k ?b; (case a => k_is); (case l => k_is); (case c => k_is); (case k => k_is); (case b => exact fun _ _ _ _ _ _ us hl => match us, hl with | [_], _ => rfl)
    have f__law_plain : K65.FnF (L2.KOf KX) mg "_law_plain" 80 ["_law_lot_here"] := by refine' K65.fnF_mk KX G ?a ?l ?c ?k ?b; (case a => k_is); (case l => k_is); (case c => k_is); (case k => k_is); (case b => exact fun _ _ _ _ _ _ us hl => match us, hl with | [_], _ => rfl)
    have f__law_parted : K65.FnF (L2.KOf KX) mg "_law_parted" 81 ["_law_one", "_law_two_here"] := by refine' K65.fnF_mk KX G ?a ?l ?c ?k ?b; (case a => k_is); (case l => k_is); (case c => k_is); (case k => k_is); (case b => exact fun _ _ _ _ _ _ us hl => match us, hl with | [_, _], _ => rfl)
    have f__law_quotient : K65.FnF (L2.KOf KX) mg "_law_quotient" 82 ["_law_one", "_law_two_here"] := by refine' K65.fnF_mk KX G ?a ?l ?c ?k ?b; (case a => k_is); (case l => k_is); (case c => k_is); (case k => k_is); (case b => exact fun _ _ _ _ _ _ us hl => match us, hl with | [_, _], _ => rfl)
    have f__law_greatest : K65.FnF (L2.KOf KX) mg "_law_greatest" 83 ["_law_one", "_law_two_here"] := by refine' K65.fnF_mk KX G ?a ?l ?c ?k ?b; (case a => k_is); (case l => k_is); (case c => k_is); (case k => k_is); (case b => exact fun _ _ _ _ _ _ us hl => match us, hl with | [_, _], _ => rfl)
    have f__law_number : K65.FnF (L2.KOf KX) mg "_law_number" 84 ["_law_well_here"] := by refine' K65.fnF_mk KX G ?a ?l ?c ?k ?b; (case a => k_is); (case l => k_is); (case c => k_is); (case k => k_is); (case b => exact fun _ _ _ _ _ _ us hl => match us, hl with | [_], _ => rfl)
    have f__law_near : K65.FnF (L2.KOf KX) mg "_law_near" 85 ["_law_well_here", "_law_most"] := by refine' K65.fnF_mk KX G ?a ?l ?c ?k ?b; (case a => k_is); (case l => k_is); (case c => k_is); (case k => k_is); (case b => exact fun _ _ _ _ _ _ us hl => match us, hl with | [_, _], _ => rfl)
    have f__law_changed : K65.FnF (L2.KOf KX) mg "_law_changed" 86 ["_law_well_here", "_law_lot_here"] := by refine' K65.fnF_mk KX G ?a ?l ?c ?k ?b; (case a => k_is); (case l => k_is); (case c => k_is); (case k => k_is); (case b => exact fun _ _ _ _ _ _ us hl => match us, hl with | [_, _], _ => rfl)
    have f__law_is_whole : K65.FnF (L2.KOf KX) mg "_law_is_whole" 87 ["_law_thing"] := by refine' K65.fnF_mk KX G ?a ?l ?c ?k ?b; (case a => k_is); (case l => k_is); (case c => k_is); (case k => k_is); (case b => exact fun _ _ _ _ _ _ us hl => match us, hl with | [_], _ => rfl)
    have f__law_is_fraction : K65.FnF (L2.KOf KX) mg "_law_is_fraction" 88 ["_law_thing"] := by refine' K65.fnF_mk KX G ?a ?l ?c ?k ?b; (case a => k_is); (case l => k_is); (case c => k_is); (case k => k_is); (case b => exact fun _ _ _ _ _ _ us hl => match us, hl with | [_], _ => rfl)
    have f__law_is_line : K65.FnF (L2.KOf KX) mg "_law_is_line" 89 ["_law_thing"] := by refine' K65.fnF_mk KX G ?a ?l ?c ?k ?b; (case a => k_is); (case l => k_is); (case c => k_is); (case k => k_is); (case b => exact fun _ _ _ _ _ _ us hl => match us, hl with | [_], _ => rfl)
    have f__law_are_lines : K65.FnF (L2.KOf KX) mg "_law_are_lines" 90 ["_law_thing"] := by refine' K65.fnF_mk KX G ?a ?l ?c ?k ?b; (case a => k_is); (case l => k_is); (case c => k_is); (case k => k_is); (case b => exact fun _ _ _ _ _ _ us hl => match us, hl with | [_], _ => rfl)
    have f__law_bar : K65.FnF (L2.KOf KX) mg "_law_bar" 91 ["_law_lot_here"] := by refine' K65.fnF_mk KX G ?a ?l ?c ?k ?b; (case a => k_is); (case l => k_is); (case c => k_is); (case k => k_is); (case b => exact fun _ _ _ _ _ _ us hl => match us, hl with | [_], _ => rfl)
    have f__law_base : K65.FnF (L2.KOf KX) mg "_law_base" 92 ["_law_one", "_law_two_here"] := by refine' K65.fnF_mk KX G ?a ?l ?c ?k ?b; (case a => k_is); (case l => k_is); (case c => k_is); (case k => k_is); (case b => exact fun _ _ _ _ _ _ us hl => match us, hl with | [_, _], _ => rfl)
    have f__law_is_led : K65.FnF (L2.KOf KX) mg "_law_is_led" 93 ["_law_told", "_law_lot_here", "_law_pair"] := by refine' K65.fnF_mk KX G ?a ?l ?c ?k ?b; (case a => k_is); (case l => k_is); (case c => k_is); (case k => k_is); (case b => exact fun _ _ _ _ _ _ us hl => match us, hl with | [_, _, _], _ => rfl)
    have f__law_two : K65.FnF (L2.KOf KX) mg "_law_two" 94 ["_law_well_here"] := by refine' K65.fnF_mk KX G ?a ?l ?c ?k ?b; (case a => k_is); (case l => k_is); (case c => k_is); (case k => k_is); (case b => exact fun _ _ _ _ _ _ us hl => match us, hl with | [_], _ => rfl)
    have f__law_fits_one : K65.FnF (L2.KOf KX) mg "_law_fits_one" 95 ["_law_one", "_law_two_here", "_law_here", "_law_there"] := by refine' K65.fnF_mk KX G ?a ?l ?c ?k ?b; (case a => k_is); (case l => k_is); (case c => k_is); (case k => k_is); (case b => exact fun _ _ _ _ _ _ us hl => match us, hl with | [_, _, _, _], _ => rfl)
    have f__law_right : K65.FnF (L2.KOf KX) mg "_law_right" 96 ["_law_well_here"] := by refine' K65.fnF_mk KX G ?a ?l ?c ?k ?b; (case a => k_is); (case l => k_is); (case c => k_is); (case k => k_is); (case b => exact fun _ _ _ _ _ _ us hl => match us, hl with | [_], _ => rfl)
    have f_law : K65.FnF (L2.KOf KX) mg "law" 97 ["_law_script"] := by refine' K65.fnF_mk KX G ?a ?l ?c ?k ?b; (case a => k_is); (case l => k_is); (case c => k_is); (case k => k_is); (case b => exact fun _ _ _ _ _ _ us hl => match us, hl with | [_], _ => rfl)
    have m_abs : mg "abs" = none := by refine' PySem.W.mg_none_of KX G ?a; (case a => k_is)
    have m_all : mg "all" = none := by refine' PySem.W.mg_none_of KX G ?a; (case a => k_is)
    have m_bool : mg "bool" = none := by refine' PySem.W.mg_none_of KX G ?a; (case a => k_is)
    have m_dict : mg "dict" = none := by refine' PySem.W.mg_none_of KX G ?a; (case a => k_is)
    have m_divmod : mg "divmod" = none := by refine' PySem.W.mg_none_of KX G ?a; (case a => k_is)
    have m_enumerate : mg "enumerate" = none := by refine' PySem.W.mg_none_of KX G ?a; (case a => k_is)
    have m_int : mg "int" = none := by refine' PySem.W.mg_none_of KX G ?a; (case a => k_is)
    have m_isinstance : mg "isinstance" = none := by refine' PySem.W.mg_none_of KX G ?a; (case a => k_is)
    have m_len : mg "len" = none := by refine' PySem.W.mg_none_of KX G ?a; (case a => k_is)
    have m_list : mg "list" = none := by refine' PySem.W.mg_none_of KX G ?a; (case a => k_is)
    have m_max : mg "max" = none := by refine' PySem.W.mg_none_of KX G ?a; (case a => k_is)
    have m_min : mg "min" = none := by refine' PySem.W.mg_none_of KX G ?a; (case a => k_is)
    have m_range : mg "range" = none := by refine' PySem.W.mg_none_of KX G ?a; (case a => k_is)
    have m_repr : mg "repr" = none := by refine' PySem.W.mg_none_of KX G ?a; (case a => k_is)
    have m_sorted : mg "sorted" = none := by refine' PySem.W.mg_none_of KX G ?a; (case a => k_is)
    have m_tuple : mg "tuple" = none := by refine' PySem.W.mg_none_of KX G ?a; (case a => k_is)
    have m_zip : mg "zip" = none := by refine' PySem.W.mg_none_of KX G ?a; (case a => k_is)
    have g_gcd : mg "gcd" = some (.builtin "math.gcd") := by refine' PySem.W.mg_of KX G ?a; (case a => k_is)
    have tz : ∀ H, L2.Dp (L2.KOf KX) H (.ref 113) K65.zeroD := by refine' (K65.tup_mk KX (vs := [.int 0, .int 1]) ?q1 ?q2 ?q3 ?q4 : _); (case q1 => k_is); (case q2 => decide); (case q3 => exact .cons ⟨_, rfl⟩ (.cons ⟨_, rfl⟩ .nil)); (case q4 => exact fun H => .cons (.int 0) (.cons (.int 1) .nil))
    have to1 : ∀ H, L2.Dp (L2.KOf KX) H (.ref 114) K65.oneD := by refine' (K65.tup_mk KX (vs := [.int 1, .int 1]) ?q1 ?q2 ?q3 ?q4 : _); (case q1 => k_is); (case q2 => decide); (case q3 => exact .cons ⟨_, rfl⟩ (.cons ⟨_, rfl⟩ .nil)); (case q4 => exact fun H => .cons (.int 1) (.cons (.int 1) .nil))
    have te : ∀ H, L2.Dp (L2.KOf KX) H (.ref 157) (.tuple []) := by refine' (K65.tup_mk KX (vs := []) ?q1 ?q2 ?q3 ?q4 : _); (case q1 => k_is); (case q2 => decide); (case q3 => exact .nil); (case q4 => exact fun H => .nil)
    have tn : ∀ H, L2.Dp (L2.KOf KX) H (.ref 158) K65.noughtD := by refine' (K65.tup_mk KX (vs := [.int 0, .ref 157]) ?q1 ?q2 ?q3 ?q4 : _); (case q1 => k_is); (case q2 => decide); (case q3 => exact .cons ⟨_, rfl⟩ (.cons rfl .nil)); (case q4 => exact fun H => .cons (.int 0) (.cons (te H) .nil))
    have tl1 : ∀ H, L2.Dp (L2.KOf KX) H (.ref 159) (.tuple [K65.oneD]) := by refine' (K65.tup_mk KX (vs := [.ref 114]) ?q1 ?q2 ?q3 ?q4 : _); (case q1 => k_is); (case q2 => decide); (case q3 => exact .cons rfl .nil); (case q4 => exact fun H => .cons (to1 H) .nil)
    have tu : ∀ H, L2.Dp (L2.KOf KX) H (.ref 160) K65.unitD := by refine' (K65.tup_mk KX (vs := [.int 0, .ref 159]) ?q1 ?q2 ?q3 ?q4 : _); (case q1 => k_is); (case q2 => decide); (case q3 => exact .cons ⟨_, rfl⟩ (.cons rfl .nil)); (case q4 => exact fun H => .cons (.int 0) (.cons (tl1 H) .nil))
    have tno : ∀ H, L2.Dp (L2.KOf KX) H (.ref 296) K65.nothingD := by refine' (K65.tup_mk KX (vs := [.ref 158, .ref 158]) ?q1 ?q2 ?q3 ?q4 : _); (case q1 => k_is); (case q2 => decide); (case q3 => exact .cons rfl (.cons rfl .nil)); (case q4 => exact fun H => .cons (tn H) (.cons (tn H) .nil))
    have g_ZERO : ∃ a, mg "ZERO" = some (.ref a) ∧ ∀ H, L2.Dp (L2.KOf KX) H (.ref a) K65.zeroD := by refine' K65.glob_mk KX G (a := 113) ?a tz; (case a => k_is)
    have g_ONE : ∃ a, mg "ONE" = some (.ref a) ∧ ∀ H, L2.Dp (L2.KOf KX) H (.ref a) K65.oneD := by refine' K65.glob_mk KX G (a := 114) ?a to1; (case a => k_is)
    have g_NOUGHT : ∃ a, mg "NOUGHT" = some (.ref a) ∧ ∀ H, L2.Dp (L2.KOf KX) H (.ref a) K65.noughtD := by refine' K65.glob_mk KX G (a := 158) ?a tn; (case a => k_is)
    have g_UNIT : ∃ a, mg "UNIT" = some (.ref a) ∧ ∀ H, L2.Dp (L2.KOf KX) H (.ref a) K65.unitD := by refine' K65.glob_mk KX G (a := 160) ?a tu; (case a => k_is)
    have g_NOTHING : ∃ a, mg "NOTHING" = some (.ref a) ∧ ∀ H, L2.Dp (L2.KOf KX) H (.ref a) K65.nothingD := by refine' K65.glob_mk KX G (a := 296) ?a tno; (case a => k_is)
    have FA : K65.Facts (L2.KOf KX) mg := ⟨f_is_whole, f_are_wholes, f_divisor_of, f_is_ratio, f_ratio, f_plus, f_minus, f_times, f_over, f_row_by, f_end_of, f_at_place, f_row_sum, f_row_scaled, f_row_less, f_row_shift, f_row_product, f_part_from, f_even_of, f_odd_of, f_spread_out, f_weave, f_row_divided, f_row_quotient, f_is_laid, f_check_row, f_splitter_from, f_check_channels, f_factors_for, f_pair_determinant, f_parts_of, f_table_row, f_splitter_by_rows, f_row_by_both, f_lone_direction, f_times_of, f_row_along, f_read_by, f_splitter_read, f__law_well, f__law_take, f__law_pick, f__law_rounds, f__law_common, f__law_ratio, f__law_sum, f__law_product, f__law_over, f__law_lot, f__law_cleared, f__law_line, f__law_plus, f__law_times, f__law_scaled, f__law_less, f__law_later, f__law_spread, f__law_part, f__law_channel, f__law_crossed, f__law_lines, f__law_plain, f__law_parted, f__law_quotient, f__law_greatest, f__law_number, f__law_near, f__law_changed, f__law_is_whole, f__law_is_fraction, f__law_is_line, f__law_are_lines, f__law_bar, f__law_base, f__law_is_led, f__law_two, f__law_fits_one, f__law_right, f_law, m_abs, m_all, m_bool, m_dict, m_divmod, m_enumerate, m_int, m_isinstance, m_len, m_list, m_max, m_min, m_range, m_repr, m_sorted, m_tuple, m_zip, g_gcd, g_ZERO, g_ONE, g_NOUGHT, g_UNIT, g_NOTHING⟩
    have SK : K65.SplK (L2.KOf KX) mg := by refine' (K65.splK_mk KX G ?a ?l ?c ?k : _); (case a => k_is); (case l => k_is); (case c => k_is); (case k => k_is)

    have LW : ∃ f fd, C8.Def (L2.KOf KX) mg "law" (K65.topS 97) f fd ∧ ∀ (s : Shared) (u : Value), BindsTo s fd ⟨[u], []⟩ [("_law_script", u)] := by refine' (K65.law_mk KX G ?a ?l ?c ?k : _); (case a => k_is); (case l => k_is); (case c => k_is); (case k => k_is)
    obtain ⟨f0, fd, D, hb⟩ := LW
    have e := hmg.symm.trans D.mgf
    cases e
    exact ⟨fd, hb, fun base _ _ => K65.g_law FA K65.math_ok SK D⟩
