import PyProof.Rows.All
import Wide.All
import OpenK.AllK
import Wide.FinOn
import HandS.ForMost
import HandS.More
import HandS.Star
import HandS.Property
import HandS.SlotsOwn
import HandS.Style
import HandS.Wide
import HandS.WideBits
import HandS.IsInst
import HandS.TupAny
import HandS.Conv
import HandS.Walk
import PySem.Challenge.RW_slotsums_k75_sign_runs_far_away
set_option Elab.async false
set_option linter.all false
set_option maxRecDepth 100000
set_option maxHeartbeats 8000000
/-! Plain mathematics for the sign runs of polynomials: rows of integers, lowest exponent first. -/
namespace SR

/-- the sign of an integer -/
def sgn (x : Int) : Int := if x > 0 then 1 else if x < 0 then -1 else 0
theorem sgn_pos {x : Int} (h : 1 ≤ x) : sgn x = 1 := by unfold sgn; rw [if_pos (by omega)]
theorem sgn_neg {x : Int} (h : x ≤ -1) : sgn x = -1 := by unfold sgn; rw [if_neg (by omega), if_pos (by omega)]
theorem sgn_zero : sgn 0 = 0 := rfl
theorem sgn_cases (x : Int) : (1 ≤ x ∧ sgn x = 1) ∨ (x = 0 ∧ sgn x = 0) ∨ (x ≤ -1 ∧ sgn x = -1) := by
  by_cases h : x > 0
  · exact .inl ⟨by omega, sgn_pos (by omega)⟩
  · by_cases h2 : x < 0
    · exact .inr (.inr ⟨by omega, sgn_neg (by omega)⟩)
    · have : x = 0 := by omega
      subst this
      exact .inr (.inl ⟨rfl, rfl⟩)
theorem sgn_bounds (x : Int) : -1 ≤ sgn x ∧ sgn x ≤ 1 := by
  rcases sgn_cases x with ⟨_, h⟩ | ⟨_, h⟩ | ⟨_, h⟩ <;> rw [h] <;> omega
theorem sgn_mono {x y : Int} (h : x ≤ y) : sgn x ≤ sgn y := by
  rcases sgn_cases x with ⟨a, e⟩ | ⟨a, e⟩ | ⟨a, e⟩ <;> rcases sgn_cases y with ⟨b, f⟩ | ⟨b, f⟩ | ⟨b, f⟩ <;> omega
theorem sgn_opp (x : Int) : sgn (-x) = - sgn x := by
  rcases sgn_cases x with ⟨a, e⟩ | ⟨a, e⟩ | ⟨a, e⟩ <;> rcases sgn_cases (-x) with ⟨b, f⟩ | ⟨b, f⟩ | ⟨b, f⟩ <;> omega
theorem sgn_mul (x y : Int) : sgn (x * y) = sgn x * sgn y := by
  rcases sgn_cases x with ⟨a, e⟩ | ⟨a, e⟩ | ⟨a, e⟩
  · rcases sgn_cases y with ⟨b, f⟩ | ⟨b, f⟩ | ⟨b, f⟩
    · have : 1 * 1 ≤ x * y := Int.mul_le_mul a b (by omega) (by omega)
      rw [e, f, sgn_pos (by omega)]; rfl
    · rw [b, Int.mul_zero, e]; rfl
    · have : 1 * 1 ≤ x * (-y) := Int.mul_le_mul a (by omega) (by omega) (by omega)
      rw [Int.mul_neg] at this
      rw [e, f, sgn_neg (by omega)]; rfl
  · rw [a, Int.zero_mul]; simp [sgn_zero]
  · rcases sgn_cases y with ⟨b, f⟩ | ⟨b, f⟩ | ⟨b, f⟩
    · have : 1 * 1 ≤ (-x) * y := Int.mul_le_mul (by omega) b (by omega) (by omega)
      rw [Int.neg_mul] at this
      rw [e, f, sgn_neg (by omega)]; rfl
    · rw [b, Int.mul_zero, e]; rfl
    · have : 1 * 1 ≤ (-x) * (-y) := Int.mul_le_mul (by omega) (by omega) (by omega) (by omega)
      rw [Int.neg_mul_neg] at this
      rw [e, f, sgn_pos (by omega)]; rfl

/-- the value of a row -/
def ev : List Int → Int → Int
  | [], _ => 0
  | a :: r, x => a + x * ev r x

/-- all values keep one sign far to the right -/
theorem far_right (M : Int) (hM : 0 ≤ M) : ∀ r : List Int, (∀ a ∈ r, -M ≤ a ∧ a ≤ M) → (∀ x, ev r x = 0) ∨ (∀ x, M + 1 ≤ x → 1 ≤ ev r x) ∨ (∀ x, M + 1 ≤ x → ev r x ≤ -1)
  | [], _ => .inl fun _ => rfl
  | a :: t, h => by
    have ha := h a (by simp)
    rcases far_right M hM t (fun b hb => h b (by simp [hb])) with z | z | z
    · have e : ∀ x, ev (a :: t) x = a := fun x => by show a + x * ev t x = a; rw [z, Int.mul_zero, Int.add_zero]
      rcases sgn_cases a with ⟨p, _⟩ | ⟨p, _⟩ | ⟨p, _⟩
      · exact .inr (.inl fun x _ => by rw [e]; exact p)
      · exact .inl fun x => by rw [e]; exact p
      · exact .inr (.inr fun x _ => by rw [e]; exact p)
    · refine .inr (.inl fun x hx => ?_)
      show 1 ≤ a + x * ev t x
      have : (M + 1) * 1 ≤ x * ev t x := Int.mul_le_mul hx (z x hx) (by omega) (by omega)
      omega
    · refine .inr (.inr fun x hx => ?_)
      show a + x * ev t x ≤ -1
      have : (M + 1) * 1 ≤ x * (- ev t x) := Int.mul_le_mul hx (by have := z x hx; omega) (by omega) (by omega)
      rw [Int.mul_neg] at this
      omega
/-- .. and far to the left -/
theorem far_left (M : Int) (hM : 0 ≤ M) : ∀ r : List Int, (∀ a ∈ r, -M ≤ a ∧ a ≤ M) → (∀ x, ev r x = 0) ∨ (∀ x, x ≤ -(M + 1) → 1 ≤ ev r x) ∨ (∀ x, x ≤ -(M + 1) → ev r x ≤ -1)
  | [], _ => .inl fun _ => rfl
  | a :: t, h => by
    have ha := h a (by simp)
    rcases far_left M hM t (fun b hb => h b (by simp [hb])) with z | z | z
    · have e : ∀ x, ev (a :: t) x = a := fun x => by show a + x * ev t x = a; rw [z, Int.mul_zero, Int.add_zero]
      rcases sgn_cases a with ⟨p, _⟩ | ⟨p, _⟩ | ⟨p, _⟩
      · exact .inr (.inl fun x _ => by rw [e]; exact p)
      · exact .inl fun x => by rw [e]; exact p
      · exact .inr (.inr fun x _ => by rw [e]; exact p)
    · refine .inr (.inr fun x hx => ?_)
      show a + x * ev t x ≤ -1
      have : (M + 1) * 1 ≤ (-x) * ev t x := Int.mul_le_mul (by omega) (z x hx) (by omega) (by omega)
      rw [Int.neg_mul] at this
      omega
    · refine .inr (.inl fun x hx => ?_)
      show 1 ≤ a + x * ev t x
      have : (M + 1) * 1 ≤ (-x) * (- ev t x) := Int.mul_le_mul (by omega) (by have := z x hx; omega) (by omega) (by omega)
      rw [Int.neg_mul_neg] at this
      omega
theorem right_sign {M : Int} (hM : 0 ≤ M) {r : List Int} (h : ∀ a ∈ r, -M ≤ a ∧ a ≤ M) : ∃ s, ∀ x, M + 1 ≤ x → sgn (ev r x) = s := by
  rcases far_right M hM r h with z | z | z
  · exact ⟨0, fun x _ => by rw [z]; rfl⟩
  · exact ⟨1, fun x hx => sgn_pos (z x hx)⟩
  · exact ⟨-1, fun x hx => sgn_neg (z x hx)⟩
theorem left_sign {M : Int} (hM : 0 ≤ M) {r : List Int} (h : ∀ a ∈ r, -M ≤ a ∧ a ≤ M) : ∃ s, ∀ x, x ≤ -(M + 1) → sgn (ev r x) = s := by
  rcases far_left M hM r h with z | z | z
  · exact ⟨0, fun x _ => by rw [z]; rfl⟩
  · exact ⟨1, fun x hx => sgn_pos (z x hx)⟩
  · exact ⟨-1, fun x hx => sgn_neg (z x hx)⟩

/-- does not end in 0 -/
def Canon (r : List Int) : Prop := r.getLast? ≠ some 0
theorem Canon.tail {a : Int} {t : List Int} (h : Canon (a :: t)) (ht : t ≠ []) : Canon t := by
  cases t with
  | nil => exact (ht rfl).elim
  | cons b u => intro e; apply h; rw [List.getLast?_cons_cons]; exact e
/-- a row that does not end in 0 has some value -/
theorem canon_far {M : Int} (hM : 0 ≤ M) : ∀ {r : List Int}, r ≠ [] → Canon r → (∀ a ∈ r, -M ≤ a ∧ a ≤ M) → (∀ x, M + 1 ≤ x → 1 ≤ ev r x) ∨ (∀ x, M + 1 ≤ x → ev r x ≤ -1)
  | [], hn, _, _ => (hn rfl).elim
  | [a], _, c, h => by
    have e : ∀ x, ev [a] x = a := fun x => by show a + x * 0 = a; omega
    have na : a ≠ 0 := fun z => c (by rw [z]; rfl)
    by_cases p : 0 < a
    · exact .inl fun x _ => by rw [e]; omega
    · exact .inr fun x _ => by rw [e]; omega
  | a :: b :: u, _, c, h => by
    have ha := h a (by simp)
    have ct : Canon (b :: u) := c.tail (by simp)
    rcases canon_far hM (r := b :: u) (by simp) ct (fun y hy => h y (by simp [List.mem_cons.mp hy])) with z | z
    · refine .inl fun x hx => ?_
      show 1 ≤ a + x * ev (b :: u) x
      have : (M + 1) * 1 ≤ x * ev (b :: u) x := Int.mul_le_mul hx (z x hx) (by omega) (by omega)
      omega
    · refine .inr fun x hx => ?_
      show a + x * ev (b :: u) x ≤ -1
      have : (M + 1) * 1 ≤ x * (- ev (b :: u) x) := Int.mul_le_mul hx (by have := z x hx; omega) (by omega) (by omega)
      rw [Int.mul_neg] at this
      omega
theorem bounded : ∀ r : List Int, ∃ M : Int, 0 ≤ M ∧ ∀ a ∈ r, -M ≤ a ∧ a ≤ M
  | [] => ⟨0, by omega, fun _ h => by cases h⟩
  | a :: t => by
    obtain ⟨M, h0, h⟩ := bounded t
    refine ⟨M + a.natAbs, by omega, fun b hb => ?_⟩
    rcases List.mem_cons.mp hb with rfl | hb
    · omega
    · have := h b hb; omega
/-- of the rows with the same values the ones that do not end in 0 are not longer -/
theorem canon_len : ∀ {c q : List Int} {N : Int}, Canon c → (∀ x, N ≤ x → ev c x = ev q x) → c.length ≤ q.length
  | [], q, N, _, _ => by simp
  | a :: t, [], N, hc, h => by
    obtain ⟨M, h0, hM⟩ := bounded (a :: t)
    exfalso
    rcases canon_far h0 (by simp) hc hM with z | z
    · have h1 := z (M + 1 + N.natAbs) (by omega)
      rw [h _ (by omega)] at h1
      exact absurd h1 (by show ¬ (1 ≤ (0 : Int)); omega)
    · have h1 := z (M + 1 + N.natAbs) (by omega)
      rw [h _ (by omega)] at h1
      exact absurd h1 (by show ¬ ((0 : Int) ≤ -1); omega)
  | a :: t, b :: u, N, hc, h => by
    by_cases ht : t = []
    · subst ht; simp
    have hd : ∀ x, N ≤ x → a - b = x * (ev u x - ev t x) := fun x hx => by
      have e : a + x * ev t x = b + x * ev u x := h x hx
      rw [Int.mul_sub]; omega
    have hab : a = b := by
      have e := hd (N.natAbs + (a - b).natAbs + 1) (by omega)
      generalize hy : ev u (N.natAbs + (a - b).natAbs + 1 : Int) - ev t (N.natAbs + (a - b).natAbs + 1 : Int) = y at e
      rcases sgn_cases y with ⟨p, _⟩ | ⟨p, _⟩ | ⟨p, _⟩
      · have : ((N.natAbs : Int) + (a - b).natAbs + 1) * 1 ≤ ((N.natAbs : Int) + (a - b).natAbs + 1) * y := Int.mul_le_mul_of_nonneg_left p (by omega)
        omega
      · rw [p, Int.mul_zero] at e; omega
      · have : ((N.natAbs : Int) + (a - b).natAbs + 1) * 1 ≤ ((N.natAbs : Int) + (a - b).natAbs + 1) * (-y) := Int.mul_le_mul_of_nonneg_left (by omega) (by omega)
        rw [Int.mul_neg] at this
        omega
    have ih := canon_len (c := t) (q := u) (N := N.natAbs + 1) (hc.tail ht) (fun x hx => by
      have e := hd x (by omega)
      rw [hab, Int.sub_self] at e
      rcases Int.mul_eq_zero.mp e.symm with z | z <;> omega)
    simp only [List.length_cons]
    omega

/-! ### rows made of rows -/
/-- without the zeros at the end -/
def trim (r : List Int) : List Int := (r.reverse.dropWhile (· == 0)).reverse
def addR : List Int → List Int → List Int
  | [], q => q
  | p, [] => p
  | a :: p, b :: q => (a + b) :: addR p q
theorem ev_addR : ∀ (p q : List Int) (x : Int), ev (addR p q) x = ev p x + ev q x
  | [], q, x => by show ev (addR [] q) x = 0 + ev q x; rw [addR]; omega
  | a :: p, [], x => by show ev (addR (a :: p) []) x = ev (a :: p) x + 0; rw [addR]; omega; simp
  | a :: p, b :: q, x => by
    show a + b + x * ev (addR p q) x = a + x * ev p x + (b + x * ev q x)
    rw [ev_addR p q x, Int.mul_add]; omega
theorem len_addR : ∀ (p q : List Int), (addR p q).length = max p.length q.length
  | [], q => by rw [addR]; simp
  | a :: p, [] => by rw [addR]; simp; simp
  | a :: p, b :: q => by rw [addR]; simp only [List.length_cons, len_addR p q]; omega
/-- the row of the value at x + 1 -/
def shiftR : List Int → List Int
  | [] => []
  | a :: t => addR (a :: shiftR t) (shiftR t)
theorem ev_shiftR : ∀ (r : List Int) (x : Int), ev (shiftR r) x = ev r (x + 1)
  | [], _ => rfl
  | a :: t, x => by
    show ev (addR (a :: shiftR t) (shiftR t)) x = a + (x + 1) * ev t (x + 1)
    rw [ev_addR]
    show a + x * ev (shiftR t) x + ev (shiftR t) x = _
    rw [ev_shiftR t x, Int.add_mul]; omega
theorem len_shiftR : ∀ r : List Int, (shiftR r).length = r.length
  | [] => rfl
  | a :: t => by
    show (addR (a :: shiftR t) (shiftR t)).length = _
    rw [len_addR]; simp only [List.length_cons, len_shiftR t]; omega
/-- the row of the steps -/
def stepR : List Int → List Int
  | [] => []
  | _ :: t => addR (if t = [] then [] else 0 :: stepR t) (shiftR t)
theorem ev_stepR : ∀ (r : List Int) (x : Int), ev (stepR r) x = ev r (x + 1) - ev r x
  | [], _ => rfl
  | a :: t, x => by
    show ev (addR (if t = [] then [] else 0 :: stepR t) (shiftR t)) x = a + (x + 1) * ev t (x + 1) - (a + x * ev t x)
    rw [ev_addR, ev_shiftR, Int.add_mul]
    by_cases h : t = []
    · rw [if_pos h, h]; simp [ev]
    · rw [if_neg h]
      show 0 + x * ev (stepR t) x + ev t (x + 1) = _
      rw [ev_stepR t x, Int.mul_sub]; omega
theorem len_stepR : ∀ r : List Int, (stepR r).length ≤ r.length - 1
  | [] => by simp [stepR]
  | a :: t => by
    show (addR (if t = [] then [] else 0 :: stepR t) (shiftR t)).length ≤ _
    rw [len_addR, len_shiftR]
    by_cases h : t = []
    · rw [if_pos h, h]; simp
    · rw [if_neg h]
      have := len_stepR t
      have : t.length ≠ 0 := fun e => h (List.length_eq_zero_iff.mp e)
      simp only [List.length_cons]; omega
/-- the steps of a polynomial, as a row that does not end in 0, are shorter -/
theorem step_len {r c : List Int} (hc : Canon c) (h : ∀ x, ev c x = ev r (x + 1) - ev r x) (hr : 1 ≤ r.length) : c.length < r.length := by
  have a := canon_len (c := c) (q := stepR r) (N := 0) hc (fun x _ => by rw [h, ev_stepR])
  have b := len_stepR r
  omega

/-! ### sizes -/
def Bd (n : Nat) (r : List Int) : Prop := ∀ a ∈ r, a.natAbs < 2 ^ n
theorem pow_mono {n m : Nat} (h : n ≤ m) : 2 ^ n ≤ 2 ^ m := Nat.pow_le_pow_right (by omega) h
theorem Bd.mono {n m : Nat} {r : List Int} (h : Bd n r) (hm : n ≤ m) : Bd m r := fun a ha => Nat.lt_of_lt_of_le (h a ha) (pow_mono hm)
theorem bd_mul {a b : Int} {n m : Nat} (ha : a.natAbs < 2 ^ n) (hb : b.natAbs < 2 ^ m) : (a * b).natAbs < 2 ^ (n + m) := by
  rw [Int.natAbs_mul, Nat.pow_add]
  exact Nat.mul_lt_mul'' ha hb
theorem bd_add {a b : Int} {n m k : Nat} (ha : a.natAbs < 2 ^ n) (hb : b.natAbs < 2 ^ m) (hn : n < k) (hm : m < k) : (a + b).natAbs < 2 ^ k := by
  have h1 : 2 ^ n ≤ 2 ^ (k - 1) := pow_mono (by omega)
  have h2 : 2 ^ m ≤ 2 ^ (k - 1) := pow_mono (by omega)
  have h3 : 2 ^ k = 2 ^ (k - 1) + 2 ^ (k - 1) := by
    obtain ⟨j, rfl⟩ : ∃ j, k = j + 1 := ⟨k - 1, by omega⟩
    rw [Nat.add_sub_cancel, Nat.pow_succ]; omega
  have := Int.natAbs_add_le a b
  omega
theorem ev_bd {n m : Nat} {x : Int} (hx : x.natAbs < 2 ^ m) : ∀ {r : List Int}, Bd n r → (ev r x).natAbs < 2 ^ (n + r.length * (m + 1))
  | [], _ => by show (0 : Int).natAbs < _; exact Nat.pos_of_ne_zero (by simp)
  | a :: t, h => by
    have ha := h a (by simp)
    have ih := ev_bd hx (r := t) (fun b hb => h b (by simp [hb]))
    refine bd_add (n := n) (m := m + (n + t.length * (m + 1))) ha (bd_mul hx ih) ?_ ?_
    · simp only [List.length_cons, Nat.add_mul]; omega
    · simp only [List.length_cons, Nat.add_mul]; omega
theorem Bd.int {n : Nat} {r : List Int} (h : Bd n r) : ∀ a ∈ r, -((2 ^ n : Nat) : Int) ≤ a ∧ a ≤ ((2 ^ n : Nat) : Int) := fun a ha => by
  have := h a ha; omega
end SR

/-! Runs of a function on the integers from a start on: plain mathematics. -/
namespace SR
/-- L are the stretches of one value of g from s on; neighbours differ -/
def IsRuns (g : Int → Int) (s : Int) : List (Int × Int) → Prop
  | [] => False
  | [(a, v)] => a = s ∧ ∀ d, s ≤ d → g d = v
  | (a, v) :: (b, u) :: rest => a = s ∧ a < b ∧ (∀ d, a ≤ d → d < b → g d = v) ∧ v ≠ u ∧ IsRuns g b ((b, u) :: rest)
theorem IsRuns.head {g : Int → Int} {s a v : Int} {r : List (Int × Int)} (h : IsRuns g s ((a, v) :: r)) : a = s ∧ g s = v := by
  cases r with
  | nil => exact ⟨h.1, h.2 s (Int.le_refl _)⟩
  | cons p r => obtain ⟨b, u⟩ := p; obtain ⟨e, l, k, _⟩ := h; subst e; exact ⟨rfl, k _ (Int.le_refl _) l⟩
theorem IsRuns.uniq {g : Int → Int} : ∀ {L M : List (Int × Int)} {s : Int}, IsRuns g s L → IsRuns g s M → L = M
  | [], _, _, h, _ => h.elim
  | _ :: _, [], _, _, h => h.elim
  | [(a, v)], [(b, u)], s, h, k => by
    obtain ⟨rfl, h1⟩ := h.head; obtain ⟨rfl, k1⟩ := k.head; rw [← h1, ← k1]
  | [(a, v)], (b, u) :: (c, w) :: r, s, h, k => by
    obtain ⟨e, l, kk, ne, k2⟩ := k
    have h1 := h.2 b (by omega)
    have h2 := h.2 c (by omega)
    have h3 := kk b (by omega) l
    have h4 := k2.head.2
    omega
  | (b, u) :: (c, w) :: r, [(a, v)], s, k, h => by
    obtain ⟨e, l, kk, ne, k2⟩ := k
    have h1 := h.2 b (by omega)
    have h2 := h.2 c (by omega)
    have h3 := kk b (by omega) l
    have h4 := k2.head.2
    omega
  | (a, v) :: (b, u) :: r, (a', v') :: (b', u') :: r', s, h, k => by
    obtain ⟨e, l, kk, ne, k2⟩ := h
    obtain ⟨e', l', kk', ne', k2'⟩ := k
    have hv : v = v' := by
      have h1 := kk a (by omega) l
      have h2 := kk' a (by omega) (by omega)
      omega
    have hb : b = b' := by
      by_cases h1 : b < b'
      · have h2 := kk' b (by omega) h1
        have h3 := k2.head.2
        omega
      · by_cases h2 : b' < b
        · have h4 := kk b' (by omega) h2
          have h3 := k2'.head.2
          omega
        · omega
    subst hb
    have t := IsRuns.uniq k2 k2'
    rw [t, e, e', hv]
/-- negated signs -/
theorem IsRuns.map {g : Int → Int} {f : Int → Int} (hf : ∀ x y, f x = f y → x = y) : ∀ {L : List (Int × Int)} {s : Int}, IsRuns g s L → IsRuns (fun d => f (g d)) s (L.map fun p => (p.1, f p.2))
  | [], _, h => h
  | [(a, v)], s, h => ⟨h.1, fun d hd => by show f (g d) = f v; rw [h.2 d hd]⟩
  | (a, v) :: (b, u) :: r, s, h => by
    obtain ⟨e, l, k, ne, k2⟩ := h
    exact ⟨e, l, fun d h1 h2 => by show f (g d) = f v; rw [k d h1 h2], fun z => ne (hf _ _ z), IsRuns.map hf k2⟩
theorem IsRuns.congr {g f : Int → Int} : ∀ {L : List (Int × Int)} {s : Int}, (∀ d, s ≤ d → g d = f d) → IsRuns g s L → IsRuns f s L
  | [], _, _, h => h
  | [(a, v)], s, e, h => ⟨h.1, fun d hd => by rw [← e d hd]; exact h.2 d hd⟩
  | (a, v) :: (b, u) :: r, s, e, h => by
    obtain ⟨e1, l, k, ne, k2⟩ := h
    exact ⟨e1, l, fun d h1 h2 => by rw [← e d (by omega)]; exact k d h1 h2, ne, IsRuns.congr (fun d hd => e d (by omega)) k2⟩

/-- L are stretches of g from s to before e; neighbours may have one value -/
def Seg (g : Int → Int) (s : Int) (e : Option Int) : List (Int × Int) → Prop
  | [] => False
  | [(a, v)] => a = s ∧ (∀ x, e = some x → a < x) ∧ ∀ d, a ≤ d → (∀ x, e = some x → d < x) → g d = v
  | (a, v) :: (b, u) :: rest => a = s ∧ a < b ∧ (∀ d, a ≤ d → d < b → g d = v) ∧ Seg g b e ((b, u) :: rest)
theorem Seg.ne {g : Int → Int} {s : Int} {e : Option Int} {L : List (Int × Int)} (h : Seg g s e L) : L ≠ [] := fun z => by rw [z] at h; exact h
theorem Seg.append {g : Int → Int} {m : Int} {e : Option Int} : ∀ {L M : List (Int × Int)} {s : Int}, Seg g s (some m) L → Seg g m e M → Seg g s e (L ++ M)
  | [], _, _, h, _ => h.elim
  | [(a, v)], M, s, h, k => by
    cases M with
    | nil => exact k.elim
    | cons p r =>
      obtain ⟨b, u⟩ := p
      have hb : b = m := by cases r with
        | nil => exact k.1
        | cons q r => obtain ⟨c, w⟩ := q; exact k.1
      subst hb
      exact ⟨h.1, h.2.1 _ rfl, fun d h1 h2 => h.2.2 d h1 (fun x e => by cases e; exact h2), k⟩
  | (a, v) :: (b, u) :: r, M, s, h, k => ⟨h.1, h.2.1, h.2.2.1, Seg.append (L := (b, u) :: r) h.2.2.2 k⟩
/-- one more stretch behind -/
theorem Seg.snoc {g : Int → Int} {m v : Int} {e : Option Int} {L : List (Int × Int)} {s : Int} (h : Seg g s (some m) L) (hm : ∀ x, e = some x → m < x) (hv : ∀ d, m ≤ d → (∀ x, e = some x → d < x) → g d = v) : Seg g s e (L ++ [(m, v)]) :=
  h.append ⟨rfl, hm, hv⟩

/-- what joined_runs does, a stretch at a time: the stretches so far -/
def joinStep (acc : List (Int × Int)) (p : Int × Int) : List (Int × Int) :=
  if acc.getLast?.map (·.2) = some p.2 then acc else acc ++ [p]
def joined (L : List (Int × Int)) : List (Int × Int) := L.foldl joinStep []

/-- runs up to before m -/
def Upto (g : Int → Int) (s m : Int) : List (Int × Int) → Prop
  | [] => False
  | [(a, v)] => a = s ∧ s < m ∧ ∀ d, s ≤ d → d < m → g d = v
  | (a, v) :: (b, u) :: rest => a = s ∧ a < b ∧ (∀ d, a ≤ d → d < b → g d = v) ∧ v ≠ u ∧ Upto g b m ((b, u) :: rest)
theorem Upto.lt {g : Int → Int} {m : Int} : ∀ {L : List (Int × Int)} {s : Int}, Upto g s m L → s < m
  | [], _, h => h.elim
  | [(a, v)], s, h => h.2.1
  | (a, v) :: (b, u) :: r, s, h => by have := Upto.lt h.2.2.2.2; have := h.1; have := h.2.1; omega
theorem Upto.ne {g : Int → Int} {s m : Int} {L : List (Int × Int)} (h : Upto g s m L) : L ≠ [] := fun z => by rw [z] at h; exact h
/-- the last value goes on -/
theorem Upto.same {g : Int → Int} {m n v : Int} (hmn : m ≤ n) : ∀ {L : List (Int × Int)} {s : Int}, Upto g s m L → L.getLast?.map (·.2) = some v → (∀ d, m ≤ d → d < n → g d = v) → Upto g s n L
  | [], _, h, _, _ => h.elim
  | [(a, u)], s, h, e, k => by
    have e : u = v := Option.some.inj e
    subst e
    exact ⟨h.1, by have := h.2.1; omega, fun d h1 h2 => if h3 : d < m then h.2.2 d h1 h3 else k d (by omega) h2⟩
  | (a, u) :: (b, w) :: r, s, h, e, k => by
    rw [List.getLast?_cons_cons] at e
    exact ⟨h.1, h.2.1, h.2.2.1, h.2.2.2.1, Upto.same hmn h.2.2.2.2 e k⟩
theorem Upto.other {g : Int → Int} {m n v w : Int} (hmn : m < n) : ∀ {L : List (Int × Int)} {s : Int}, Upto g s m L → L.getLast?.map (·.2) = some w → w ≠ v → (∀ d, m ≤ d → d < n → g d = v) → Upto g s n (L ++ [(m, v)])
  | [], _, h, _, _, _ => h.elim
  | [(a, u)], s, h, e, nv, k => by
    have e : u = w := Option.some.inj e
    subst e
    obtain ⟨e1, l, hh⟩ := h
    exact ⟨e1, by omega, fun d h1 h2 => hh d (by omega) h2, nv, rfl, hmn, k⟩
  | (a, u) :: (b, x) :: r, s, h, e, nv, k => by
    rw [List.getLast?_cons_cons] at e
    exact ⟨h.1, h.2.1, h.2.2.1, h.2.2.2.1, Upto.other hmn h.2.2.2.2 e nv k⟩
theorem Upto.whole_same {g : Int → Int} {m v : Int} : ∀ {L : List (Int × Int)} {s : Int}, Upto g s m L → L.getLast?.map (·.2) = some v → (∀ d, m ≤ d → g d = v) → IsRuns g s L
  | [], _, h, _, _ => h.elim
  | [(a, u)], s, h, e, k => by
    have e : u = v := Option.some.inj e
    subst e
    exact ⟨h.1, fun d h1 => if h3 : d < m then h.2.2 d h1 h3 else k d (by omega)⟩
  | (a, u) :: (b, w) :: r, s, h, e, k => by
    rw [List.getLast?_cons_cons] at e
    exact ⟨h.1, h.2.1, h.2.2.1, h.2.2.2.1, Upto.whole_same h.2.2.2.2 e k⟩
theorem Upto.whole_other {g : Int → Int} {m v w : Int} : ∀ {L : List (Int × Int)} {s : Int}, Upto g s m L → L.getLast?.map (·.2) = some w → w ≠ v → (∀ d, m ≤ d → g d = v) → IsRuns g s (L ++ [(m, v)])
  | [], _, h, _, _, _ => h.elim
  | [(a, u)], s, h, e, nv, k => by
    have e : u = w := Option.some.inj e
    subst e
    obtain ⟨e1, l, hh⟩ := h
    exact ⟨e1, by omega, fun d h1 h2 => hh d (by omega) h2, nv, rfl, k⟩
  | (a, u) :: (b, x) :: r, s, h, e, nv, k => by
    rw [List.getLast?_cons_cons] at e
    exact ⟨h.1, h.2.1, h.2.2.1, h.2.2.2.1, Upto.whole_other h.2.2.2.2 e nv k⟩
theorem last_some {L : List (Int × Int)} (h : L ≠ []) : ∃ w, L.getLast?.map (·.2) = some w := by
  cases e : L.getLast? with
  | none => exact (h (List.getLast?_eq_none_iff.mp e)).elim
  | some p => exact ⟨p.2, rfl⟩
theorem join_go {g : Int → Int} : ∀ {M : List (Int × Int)} {s m : Int} {L : List (Int × Int)}, Upto g s m L → Seg g m none M → IsRuns g s (M.foldl joinStep L)
  | [], _, _, _, _, h => h.elim
  | [(a, v)], s, m, L, hL, h => by
    obtain ⟨rfl, _, hv⟩ := h
    have hv : ∀ d, a ≤ d → g d = v := fun d hd => hv d hd (fun x e => by cases e)
    obtain ⟨w, hw⟩ := last_some hL.ne
    show IsRuns g s (joinStep L (a, v))
    unfold joinStep
    by_cases e : L.getLast?.map (·.2) = some v
    · rw [if_pos e]; exact hL.whole_same e hv
    · rw [if_neg e]; exact hL.whole_other hw (fun z => e (by rw [hw, z])) hv
  | (a, v) :: (b, u) :: r, s, m, L, hL, h => by
    obtain ⟨rfl, hab, hv, h2⟩ := h
    obtain ⟨w, hw⟩ := last_some hL.ne
    show IsRuns g s (((b, u) :: r).foldl joinStep (joinStep L (a, v)))
    unfold joinStep
    by_cases e : L.getLast?.map (·.2) = some v
    · rw [if_pos e]; exact join_go (hL.same (by omega) e hv) h2
    · rw [if_neg e]; exact join_go (hL.other hab hw (fun z => e (by rw [hw, z])) hv) h2
theorem joined_runs {g : Int → Int} {s : Int} {M : List (Int × Int)} (h : Seg g s none M) : IsRuns g s (joined M) := by
  cases M with
  | nil => exact h.elim
  | cons p r =>
    obtain ⟨a, v⟩ := p
    have e : joined ((a, v) :: r) = r.foldl joinStep [(a, v)] := rfl
    rw [e]
    cases r with
    | nil => exact ⟨h.1, fun d hd => h.2.2 d (by have := h.1; omega) (fun x e => by cases e)⟩
    | cons q r =>
      obtain ⟨b, u⟩ := q
      obtain ⟨rfl, hab, hv, h2⟩ := h
      exact join_go (L := [(a, v)]) (m := b) ⟨rfl, hab, hv⟩ h2
/-- a start that is not the first one: the value changes there -/
theorem IsRuns.change {g : Int → Int} : ∀ {L : List (Int × Int)} {s : Int}, IsRuns g s L → ∀ p ∈ L, p.1 = s ∨ (s < p.1 ∧ g (p.1 - 1) ≠ g p.1)
  | [], _, h, _, _ => h.elim
  | [(a, v)], s, h, p, hp => by
    rcases List.mem_cons.mp hp with rfl | hp
    · exact .inl h.1
    · cases hp
  | (a, v) :: (b, u) :: r, s, h, p, hp => by
    obtain ⟨e, l, k, ne, k2⟩ := h
    rcases List.mem_cons.mp hp with rfl | hp
    · exact .inl e
    · rcases IsRuns.change k2 p hp with q | ⟨q, c⟩
      · refine .inr ⟨by omega, ?_⟩
        rw [q, k (b - 1) (by omega) (by omega), k2.head.2]
        exact ne
      · exact .inr ⟨by omega, c⟩
/-- runs cut at a start -/
theorem IsRuns.upper {g : Int → Int} {s : Int} {a v b u : Int} {r : List (Int × Int)} (h : IsRuns g s ((a, v) :: (b, u) :: r)) : IsRuns g b ((b, u) :: r) := h.2.2.2.2
end SR

/-! The rows that the program makes. -/
namespace SR
theorem ev_append_zeros : ∀ (c : List Int) (k : Nat) (x : Int), ev (c ++ List.replicate k 0) x = ev c x
  | [], 0, _ => rfl
  | [], k + 1, x => by
    show (0 : Int) + x * ev ([] ++ List.replicate k 0) x = 0
    rw [ev_append_zeros [] k x]; show (0 : Int) + x * 0 = 0; omega
  | a :: c, k, x => by
    show a + x * ev (c ++ List.replicate k 0) x = a + x * ev c x
    rw [ev_append_zeros c k x]
/-- two rows made equally long, added -/
theorem pad_add : ∀ (r q : List Int), List.zipWith (· + ·) (r ++ List.replicate (max r.length q.length - r.length) 0) (q ++ List.replicate (max r.length q.length - q.length) 0) = addR r q
  | [], q => by
    rw [addR]
    have e : max ([] : List Int).length q.length - q.length = 0 := by simp
    rw [e]
    simp only [List.length_nil, Nat.zero_max, Nat.sub_zero, List.nil_append, List.replicate_zero, List.append_nil]
    induction q with
    | nil => rfl
    | cons a q ih => rw [List.length_cons, List.replicate_succ, List.zipWith_cons_cons, ih (by simp)]; simp
  | a :: r, [] => by
    rw [addR]
    · have e : max (a :: r).length ([] : List Int).length - (a :: r).length = 0 := by simp
      rw [e]
      simp only [List.length_nil, Nat.max_zero, Nat.sub_zero, List.nil_append, List.replicate_zero, List.append_nil]
      generalize a :: r = l
      induction l with
      | nil => rfl
      | cons a q ih => rw [List.length_cons, List.replicate_succ, List.zipWith_cons_cons, ih]; simp
    · simp
  | a :: r, b :: q => by
    have e1 : max (a :: r).length (b :: q).length - (a :: r).length = max r.length q.length - r.length := by simp only [List.length_cons]; omega
    have e2 : max (a :: r).length (b :: q).length - (b :: q).length = max r.length q.length - q.length := by simp only [List.length_cons]; omega
    rw [e1, e2, addR, List.cons_append, List.cons_append, List.zipWith_cons_cons, pad_add r q]
/-- a coefficient of a product -/
def conv (r q : List Int) (at_ : Nat) : Int := ((List.range (at_ + 1)).map fun low => r.getD low 0 * q.getD (at_ - low) 0).sum
def mulR (r q : List Int) : List Int := (List.range (r.length + q.length)).map (conv r q)
theorem range_ev (n : Nat) (f : Nat → Int) (x : Int) : ev ((List.range (n + 1)).map f) x = f 0 + x * ev ((List.range n).map fun k => f (k + 1)) x := by
  rw [List.range_succ_eq_map, List.map_cons, List.map_map]; rfl
theorem ev_add : ∀ (n : Nat) (f g : Nat → Int) (x : Int), ev ((List.range n).map fun k => f k + g k) x = ev ((List.range n).map f) x + ev ((List.range n).map g) x
  | 0, _, _, _ => rfl
  | n + 1, f, g, x => by
    rw [range_ev, range_ev, range_ev, ev_add n (fun k => f (k + 1)) (fun k => g (k + 1)) x, Int.mul_add]; omega
theorem ev_scale : ∀ (n : Nat) (c : Int) (f : Nat → Int) (x : Int), ev ((List.range n).map fun k => c * f k) x = c * ev ((List.range n).map f) x
  | 0, c, _, _ => by show (0 : Int) = c * 0; omega
  | n + 1, c, f, x => by
    rw [range_ev, range_ev, ev_scale n c (fun k => f (k + 1)) x, Int.mul_add]
    rw [← Int.mul_assoc, ← Int.mul_assoc, Int.mul_comm x c]
theorem ev_zero : ∀ (n : Nat) (f : Nat → Int) (x : Int), (∀ k, f k = 0) → ev ((List.range n).map f) x = 0
  | 0, _, _, _ => rfl
  | n + 1, f, x, h => by rw [range_ev, ev_zero n _ x (fun k => h (k + 1)), h 0]; simp
theorem ev_getD : ∀ (q : List Int) (n : Nat) (x : Int), q.length ≤ n → ev ((List.range n).map fun k => q.getD k 0) x = ev q x
  | [], n, x, _ => ev_zero n _ x (fun k => by simp)
  | a :: q, 0, x, h => by simp at h
  | a :: q, n + 1, x, h => by
    rw [range_ev]
    show a + x * ev ((List.range n).map fun k => q.getD k 0) x = a + x * ev q x
    rw [ev_getD q n x (by simpa using h)]
theorem conv_zero (q : List Int) (k : Nat) : conv [] q k = 0 := by
  unfold conv
  have : (fun low => ([] : List Int).getD low 0 * q.getD (k - low) 0) = fun _ => 0 := by funext low; simp
  rw [this]
  generalize List.range (k + 1) = l
  induction l with
  | nil => rfl
  | cons a t ih => rw [List.map_cons, List.sum_cons, ih]; rfl
theorem conv_succ (a : Int) (r q : List Int) (k : Nat) : conv (a :: r) q (k + 1) = a * q.getD (k + 1) 0 + conv r q k := by
  unfold conv
  rw [List.range_succ_eq_map, List.map_cons, List.map_map, List.sum_cons]
  have e : (fun low => (a :: r).getD low 0 * q.getD (k + 1 - low) 0) ∘ Nat.succ = fun low => r.getD low 0 * q.getD (k - low) 0 := by
    funext low
    show (a :: r).getD (low + 1) 0 * q.getD (k + 1 - (low + 1)) 0 = _
    rw [show k + 1 - (low + 1) = k - low by omega]; rfl
  rw [e]; rfl
theorem conv_at0 (a : Int) (r q : List Int) : conv (a :: r) q 0 = a * q.getD 0 0 := by
  show a * q.getD 0 0 + 0 = _; omega
theorem ev_mulR : ∀ (r q : List Int) (x : Int), ev (mulR r q) x = ev r x * ev q x
  | [], q, x => by
    show ev ((List.range _).map _) x = 0 * _
    rw [ev_zero _ _ x (fun k => conv_zero q k)]; omega
  | a :: r, q, x => by
    unfold mulR
    have e1 : (a :: r).length + q.length = (r.length + q.length) + 1 := by simp only [List.length_cons]; omega
    rw [e1, range_ev, conv_at0]
    have e2 : (fun k => conv (a :: r) q (k + 1)) = fun k => a * q.getD (k + 1) 0 + conv r q k := funext fun k => conv_succ a r q k
    rw [e2, ev_add, ev_scale _ a (fun k => q.getD (k + 1) 0)]
    have e3 := ev_mulR r q x
    unfold mulR at e3
    rw [e3]
    have e4 := ev_getD q (r.length + q.length + 1) x (by omega)
    rw [range_ev] at e4
    show _ = (a + x * ev r x) * ev q x
    rw [← e4]
    generalize ev (List.map (fun k => q.getD (k + 1) 0) (List.range (r.length + q.length))) x = T
    generalize ev r x = R
    generalize q.getD 0 0 = Z
    grind
def oppR (r : List Int) : List Int := r.map fun a => 0 - a
theorem ev_oppR : ∀ (r : List Int) (x : Int), ev (oppR r) x = - ev r x
  | [], _ => rfl
  | a :: r, x => by
    show 0 - a + x * ev (oppR r) x = -(a + x * ev r x)
    rw [ev_oppR r x, Int.mul_neg]; omega
/-! sizes -/
theorem Bd.append {n : Nat} {r q : List Int} (h : Bd n (r ++ q)) : Bd n r := fun a ha => h a (by simp [ha])
theorem Bd.add {n m k : Nat} (hn : n < k) (hm : m < k) : ∀ {r q : List Int}, Bd n r → Bd m q → Bd k (addR r q)
  | [], q, _, hq => by rw [addR]; exact hq.mono (by omega)
  | a :: r, [], hr, _ => by rw [addR]; exact hr.mono (by omega); simp
  | a :: r, b :: q, hr, hq => by
    rw [addR]
    intro y hy
    rcases List.mem_cons.mp hy with rfl | hy
    · exact bd_add (hr a (by simp)) (hq b (by simp)) hn hm
    · exact Bd.add hn hm (fun z hz => hr z (by simp [hz])) (fun z hz => hq z (by simp [hz])) y hy
theorem Bd.opp {n : Nat} {r : List Int} (h : Bd n r) : Bd n (oppR r) := fun y hy => by
  obtain ⟨a, ha, rfl⟩ := List.mem_map.mp hy
  have := h a ha
  omega
theorem Bd.getD {n : Nat} {r : List Int} (h : Bd n r) (i : Nat) : (r.getD i 0).natAbs < 2 ^ n := by
  rw [List.getD_eq_getElem?_getD]
  cases e : r[i]? with
  | none => exact Nat.pos_of_ne_zero (by simp)
  | some a => exact h a (List.mem_of_getElem? e)
theorem sum_bd {n : Nat} : ∀ (l : List Int) (k : Nat), (∀ a ∈ l, a.natAbs < 2 ^ n) → l.length ≤ 2 ^ k → l.sum.natAbs < 2 ^ (n + k) + 1 := by
  intro l k h hl
  have e : ∀ l : List Int, (∀ a ∈ l, a.natAbs < 2 ^ n) → l.sum.natAbs ≤ l.length * 2 ^ n := by
    intro l
    induction l with
    | nil => intro _; simp
    | cons a t ih =>
      intro h
      have h1 := h a (by simp)
      have h2 := ih (fun b hb => h b (by simp [hb]))
      rw [List.sum_cons, List.length_cons, Nat.add_mul]
      have := Int.natAbs_add_le a t.sum
      omega
  have h1 := e l h
  have h2 : l.length * 2 ^ n ≤ 2 ^ k * 2 ^ n := Nat.mul_le_mul_right _ hl
  rw [Nat.pow_add, Nat.mul_comm (2 ^ n)]
  omega
theorem Bd.mul {n m : Nat} {r q : List Int} (hr : Bd n r) (hq : Bd m q) (hl : r.length + q.length ≤ 16) : Bd (n + m + 5) (mulR r q) := fun y hy => by
  obtain ⟨at_, ha, rfl⟩ := List.mem_map.mp hy
  have ha := List.mem_range.mp ha
  have h := sum_bd (n := n + m) ((List.range (at_ + 1)).map fun low => r.getD low 0 * q.getD (at_ - low) 0) 4 (fun z hz => by
    obtain ⟨low, _, rfl⟩ := List.mem_map.mp hz
    exact bd_mul (hr.getD _) (hq.getD _)) (by simp; omega)
  have h2 : 2 ^ (n + m + 4) + 1 ≤ 2 ^ (n + m + 5) := by
    have : 1 ≤ 2 ^ (n + m + 4) := Nat.pos_of_ne_zero (by simp)
    rw [Nat.pow_succ 2 (n + m + 4)]; omega
  unfold conv
  omega
theorem len_mulR (r q : List Int) : (mulR r q).length = r.length + q.length := by simp [mulR]
end SR

/-! The sign runs of a polynomial by those of its steps. -/
namespace SR
theorem ev_nonneg {d : Int} (hd : 1 ≤ d) : ∀ {r : List Int}, (∀ a ∈ r, 0 ≤ a) → 0 ≤ ev r d
  | [], _ => Int.le_refl _
  | a :: t, h => by
    have h1 := h a (by simp)
    have h2 := ev_nonneg hd (r := t) (fun b hb => h b (by simp [hb]))
    have h3 : 0 ≤ d * ev t d := Int.mul_nonneg (by omega) h2
    show 0 ≤ a + d * ev t d
    omega
theorem ev_pos {d : Int} (hd : 1 ≤ d) : ∀ {r : List Int}, (∀ a ∈ r, 0 ≤ a) → (∃ a ∈ r, 0 < a) → 1 ≤ ev r d
  | [], _, ⟨a, h, _⟩ => by cases h
  | a :: t, h, ⟨b, hb, hp⟩ => by
    have h1 := h a (by simp)
    have ht : ∀ c ∈ t, 0 ≤ c := fun c hc => h c (List.mem_cons_of_mem _ hc)
    show 1 ≤ a + d * ev t d
    rcases List.mem_cons.mp hb with rfl | hb
    · have h3 : 0 ≤ d * ev t d := Int.mul_nonneg (by omega) (ev_nonneg hd ht)
      omega
    · have h2 := ev_pos hd ht ⟨b, hb, hp⟩
      have h3 : 1 * 1 ≤ d * ev t d := Int.mul_le_mul hd h2 (by omega) (by omega)
      omega
theorem one_pos {r : List Int} (h : ∀ a ∈ r, 0 ≤ a) (hp : ∃ a ∈ r, 0 < a) : IsRuns (fun d => sgn (ev r d)) 1 [(1, 1)] := ⟨rfl, fun d hd => sgn_pos (ev_pos hd h hp)⟩
theorem one_neg {r : List Int} (hc : Canon r) (hn : r ≠ []) (h : ∀ a ∈ r, a ≤ 0) : IsRuns (fun d => sgn (ev r d)) 1 [(1, -1)] := by
  refine ⟨rfl, fun d hd => ?_⟩
  have h1 : 1 ≤ ev (oppR r) d := by
    refine ev_pos hd (fun a ha => ?_) ?_
    · obtain ⟨b, hb, rfl⟩ := List.mem_map.mp ha
      have := h b hb; omega
    · refine ⟨0 - r.getLast hn, List.mem_map.mpr ⟨_, List.getLast_mem hn, rfl⟩, ?_⟩
      have h2 := h _ (List.getLast_mem hn)
      have h3 : r.getLast hn ≠ 0 := fun e => hc (by rw [List.getLast?_eq_some_getLast hn, e])
      omega
  rw [ev_oppR] at h1
  exact sgn_neg (by omega)
theorem one_zero : IsRuns (fun d => sgn (ev [] d)) 1 [(1, 0)] := ⟨rfl, fun _ _ => rfl⟩
theorem short_runs {r : List Int} (h : r.length ≤ 1) : IsRuns (fun d => sgn (ev r d)) 1 [(1, sgn (ev r 1))] := by
  match r, h with
  | [], _ => exact ⟨rfl, fun _ _ => rfl⟩
  | [a], _ => exact ⟨rfl, fun d _ => by show sgn (a + d * 0) = sgn (a + 1 * 0); rw [Int.mul_zero, Int.mul_zero]⟩
/-- runs by places -/
theorem IsRuns.at {g : Int → Int} : ∀ {L : List (Int × Int)} {s : Int}, IsRuns g s L → ∀ {i : Nat} {p : Int × Int}, L[i]? = some p → s ≤ p.1 ∧ (∀ q, L[i + 1]? = some q → p.1 < q.1) ∧ ∀ d, p.1 ≤ d → (∀ q, L[i + 1]? = some q → d < q.1) → g d = p.2
  | [], _, h, _, _, _ => h.elim
  | [(a, v)], s, h, 0, p, e => by
    cases e
    refine ⟨by have := h.1; show s ≤ a; omega, fun q z => by simp at z, fun d hd _ => h.2 d (by have := h.1; have : a ≤ d := hd; omega)⟩
  | [(a, v)], s, h, i + 1, p, e => by simp at e
  | (a, v) :: (b, u) :: r, s, h, 0, p, e => by
    cases e
    obtain ⟨e1, l, k, ne, k2⟩ := h
    refine ⟨by show s ≤ a; omega, fun q z => ?_, fun d hd hq => k d hd (hq _ rfl)⟩
    cases z
    exact l
  | (a, v) :: (b, u) :: r, s, h, i + 1, p, e => by
    obtain ⟨e1, l, k, ne, k2⟩ := h
    obtain ⟨x, y, z⟩ := IsRuns.at k2 (i := i) (p := p) e
    exact ⟨by omega, y, z⟩
theorem IsRuns.ne {g : Int → Int} {s : Int} {L : List (Int × Int)} (h : IsRuns g s L) : L ≠ [] := fun z => by rw [z] at h; exact h
theorem IsRuns.first {g : Int → Int} {s : Int} {L : List (Int × Int)} (h : IsRuns g s L) : ∃ v, L[0]? = some (s, v) := by
  cases L with
  | nil => exact h.elim
  | cons p r => obtain ⟨a, v⟩ := p; obtain ⟨rfl, _⟩ := h.head; exact ⟨v, rfl⟩
/-- the starts are not far -/
theorem IsRuns.near {r : List Int} {n : Nat} (hn : Bd n r) {L : List (Int × Int)} (h : IsRuns (fun d => sgn (ev r d)) 1 L) {p : Int × Int} (hp : p ∈ L) : 1 ≤ p.1 ∧ p.1 ≤ (2 ^ n : Nat) + 1 := by
  have h0 : (0 : Int) ≤ ((2 ^ n : Nat) : Int) := Int.natCast_nonneg _
  obtain ⟨s, hs⟩ := right_sign (M := ((2 ^ n : Nat) : Int)) h0 hn.int
  clear hn
  generalize ((2 ^ n : Nat) : Int) = N at h0 hs ⊢
  rcases h.change p hp with e | ⟨e1, e2⟩
  · omega
  · refine ⟨by omega, ?_⟩
    by_cases h1 : p.1 ≤ N + 1
    · exact h1
    · exfalso
      apply e2
      show sgn (ev r (p.1 - 1)) = sgn (ev r p.1)
      rw [hs _ (by omega), hs _ (by omega)]
/-- what rises or falls for ever has at last the sign of its steps -/
theorem far_sign {f : Int → Int} {s : Int} {dir T T0 : Int} (hf : ∀ d, T0 ≤ d → sgn (f d) = s) (hs : ∀ d, T ≤ d → sgn (f (d + 1) - f d) = dir) (h0 : dir ≠ 0) : s = dir := by
  have key : ∀ k : Nat, (dir = 1 → f T + k ≤ f (T + k)) ∧ (dir = -1 → f (T + k) ≤ f T - k) := by
    intro k
    induction k with
    | zero => simp
    | succ k ih =>
      have e1 := hs (T + k) (by omega)
      have e2 : T + ((k + 1 : Nat) : Int) = T + k + 1 := by omega
      rw [e2]
      refine ⟨fun z => ?_, fun z => ?_⟩
      · have := ih.1 z
        rcases sgn_cases (f (T + k + 1) - f (T + k)) with ⟨a, b⟩ | ⟨a, b⟩ | ⟨a, b⟩ <;> omega
      · have := ih.2 z
        rcases sgn_cases (f (T + k + 1) - f (T + k)) with ⟨a, b⟩ | ⟨a, b⟩ | ⟨a, b⟩ <;> omega
  have hd : dir = 1 ∨ dir = -1 := by
    have h1 := hs T (Int.le_refl _)
    have h2 := sgn_bounds (f (T + 1) - f T)
    omega
  have k := key ((f T).natAbs + T0.natAbs + T.natAbs + 1)
  have h1 := hf (T + (((f T).natAbs + T0.natAbs + T.natAbs + 1 : Nat) : Int)) (by omega)
  rcases hd with z | z
  · have := k.1 z
    rw [sgn_pos (by omega)] at h1
    omega
  · have := k.2 z
    rw [sgn_neg (by omega)] at h1
    omega
end SR

/-! The law's own numbers. -/
namespace SR
/-- the row of the polynomial of d less a number -/
def movedR (back : Int) : List Int → List Int
  | [] => []
  | a :: t => (a - back * (movedR back t).headD 0) :: List.zipWith (fun low high => low - back * high) (movedR back t) ((movedR back t).tail ++ [0])
theorem len_movedR (back : Int) : ∀ r : List Int, (movedR back r).length = r.length
  | [] => rfl
  | a :: t => by
    have h := len_movedR back t
    show (List.zipWith _ _ _).length + 1 = _
    rw [List.length_zipWith, List.length_append, List.length_tail, h, List.length_cons]
    simp only [List.length_cons, List.length_nil]
    omega
theorem ev_mov (back x : Int) : ∀ (f : List Int), (0 - back * f.headD 0) + x * ev (List.zipWith (fun low high => low - back * high) f (f.tail ++ [0])) x = (x - back) * ev f x
  | [] => by show (0 - back * 0) + x * 0 = (x - back) * 0; omega
  | [a] => by
    show (0 - back * a) + x * (a - back * 0 + x * 0) = (x - back) * (a + x * 0)
    grind
  | a :: b :: f => by
    have ih := ev_mov back x (b :: f)
    show (0 - back * a) + x * ((a - back * b) + x * ev (List.zipWith (fun low high => low - back * high) (b :: f) (f ++ [0])) x) = (x - back) * (a + x * ev (b :: f) x)
    have ih : (0 - back * b) + x * ev (List.zipWith (fun low high => low - back * high) (b :: f) (f ++ [0])) x = (x - back) * ev (b :: f) x := ih
    generalize ev (List.zipWith (fun low high => low - back * high) (b :: f) (f ++ [0])) x = A at ih ⊢
    generalize ev (b :: f) x = B at ih ⊢
    grind
theorem ev_movedR (back x : Int) : ∀ r : List Int, ev (movedR back r) x = ev r (x - back)
  | [] => rfl
  | a :: t => by
    show (a - back * (movedR back t).headD 0) + x * ev (List.zipWith (fun low high => low - back * high) (movedR back t) ((movedR back t).tail ++ [0])) x = a + (x - back) * ev t (x - back)
    have h := ev_mov back x (movedR back t)
    rw [ev_movedR back x t] at h
    omega
theorem bd_sub {a b : Int} {n m k : Nat} (ha : a.natAbs < 2 ^ n) (hb : b.natAbs < 2 ^ m) (hn : n < k) (hm : m < k) : (a - b).natAbs < 2 ^ k := by
  rw [Int.sub_eq_add_neg]
  exact bd_add ha (by rw [Int.natAbs_neg]; exact hb) hn hm
theorem bd_movedR {back : Int} {m n : Nat} (hb : back.natAbs < 2 ^ m) : ∀ {r : List Int}, Bd n r → Bd (n + (m + 1) * r.length) (movedR back r)
  | [], _ => fun a ha => by cases ha
  | a :: t, h => by
    have ih := bd_movedR hb (r := t) (fun b hb => h b (by simp [hb]))
    have ha := h a (by simp)
    have hz : ∀ f : List Int, Bd (n + (m + 1) * t.length) f → (f.headD 0).natAbs < 2 ^ (n + (m + 1) * t.length) := fun f hf => by
      cases f with
      | nil => exact Nat.pos_of_ne_zero (by simp)
      | cons b u => exact hf b (by simp)
    intro y hy
    rcases List.mem_cons.mp hy with rfl | hy
    · refine bd_sub (n := n) (m := m + (n + (m + 1) * t.length)) ha (bd_mul hb (hz _ ih)) ?_ ?_
      · simp only [List.length_cons, Nat.mul_add]; omega
      · simp only [List.length_cons, Nat.mul_add]; omega
    · obtain ⟨i, hi⟩ := List.mem_iff_getElem?.mp hy
      rw [List.getElem?_zipWith] at hi
      cases h1 : (movedR back t)[i]? with
      | none => rw [h1] at hi; cases hi
      | some u =>
        cases h2 : ((movedR back t).tail ++ [0])[i]? with
        | none => rw [h1, h2] at hi; cases hi
        | some v =>
          rw [h1, h2] at hi
          have hi : u - back * v = y := Option.some.inj hi
          subst hi
          have hu := ih u (List.mem_of_getElem? h1)
          have hv : v.natAbs < 2 ^ (n + (m + 1) * t.length) := by
            rcases List.mem_append.mp (List.mem_of_getElem? h2) with q | q
            · exact ih v (List.mem_of_mem_tail q)
            · rcases List.mem_cons.mp q with rfl | q
              · exact Nat.pos_of_ne_zero (by simp)
              · cases q
          refine bd_sub (n := n + (m + 1) * t.length) (m := m + (n + (m + 1) * t.length)) hu (bd_mul hb hv) ?_ ?_
          · simp only [List.length_cons, Nat.mul_add]; omega
          · simp only [List.length_cons, Nat.mul_add]; omega
def scaleR (c : Int) (r : List Int) : List Int := r.map fun a => c * a
theorem ev_scaleR (c x : Int) : ∀ r : List Int, ev (scaleR c r) x = c * ev r x
  | [] => by show (0 : Int) = c * 0; omega
  | a :: t => by
    show c * a + x * ev (scaleR c t) x = c * (a + x * ev t x)
    rw [ev_scaleR c x t]; grind
theorem bd_scaleR {c : Int} {m n : Nat} (hc : c.natAbs < 2 ^ m) {r : List Int} (h : Bd n r) : Bd (m + n) (scaleR c r) := fun y hy => by
  obtain ⟨a, ha, rfl⟩ := List.mem_map.mp hy
  exact bd_mul hc (h a ha)
/-! ### the law's own runs -/
theorem Upto.last {g : Int → Int} {m : Int} : ∀ {L : List (Int × Int)} {s : Int}, Upto g s m L → L.getLast?.map (·.2) = some (g (m - 1))
  | [], _, h => h.elim
  | [(a, v)], s, h => by
    have h1 := h.2.1
    show some v = _
    rw [h.2.2 (m - 1) (by omega) (by omega)]
  | (a, u) :: (b, w) :: r, s, h => by rw [List.getLast?_cons_cons]; exact Upto.last h.2.2.2.2
/-- one more place -/
theorem Upto.more {g : Int → Int} {s m : Int} {L : List (Int × Int)} (h : Upto g s m L) {v : Int} (hv : g m = v) : Upto g s (m + 1) (if v = g (m - 1) then L else L ++ [(m, v)]) := by
  have k : ∀ d, m ≤ d → d < m + 1 → g d = v := fun d h1 h2 => by
    have e : d = m := by omega
    rw [e, hv]
  by_cases e : v = g (m - 1)
  · rw [if_pos e]
    exact h.same (by omega) (h.last.trans (by rw [e])) k
  · rw [if_neg e]
    exact h.other (by omega) h.last (fun z => e z.symm) k
/-- the law's polynomial far away -/
theorem law_far {r : List Int} {t b : Int} (h : ∀ a ∈ r, -9 ≤ a ∧ a ≤ 9) : (∃ s, ∀ d, b + 10 ≤ d → sgn (t * ev r (d - b)) = s) ∧ ∃ s, ∀ d, d ≤ b - 10 → sgn (t * ev r (d - b)) = s := by
  obtain ⟨s1, h1⟩ := right_sign (M := 9) (by omega) h
  obtain ⟨s2, h2⟩ := left_sign (M := 9) (by omega) h
  exact ⟨⟨sgn t * s1, fun d hd => by rw [sgn_mul, h1 _ (by omega)]⟩, ⟨sgn t * s2, fun d hd => by rw [sgn_mul, h2 _ (by omega)]⟩⟩
end SR

/-! Rules beside the layer: t[::-1], x op y and -x by own methods. -/
namespace HT
open PySem PySem.Spec PyProof.Rows
section
variable {prog : Program} {w : World} {A : Around} {E : Value → Shared → Prop} {s : Shared}
theorem fm_congr {α β : Type} {f g : α → Option β} : ∀ (l : List α), (∀ x ∈ l, f x = g x) → l.filterMap f = l.filterMap g
  | [], _ => rfl
  | a :: t, h => by
    rw [List.filterMap_cons, List.filterMap_cons, h a (by simp), fm_congr t (fun x hx => h x (by simp [hx]))]
theorem getItem_tuple_rev {t sl : Addr} {items : Array Value} {vs : Value} {Q : Value → Shared → Prop} (ht : IsTup s.heap t items) (hs : s.heap.IsSliceOf sl .none .none vs) (ps : IsPart vs (some (-1)))
    (h : Q (.ref s.heap.objs.size) { s with heap := s.heap.push { cls := .type "tuple", data := .seq items.toList.reverse.toArray } })
    (hsz : items.size ≤ sizeLine) : wpAny (model prog w) A (getItem (.ref t) (.ref sl)) Q E s := by
  have htake : sizeOk (.seq items.toList.reverse.toArray) := by simpa [sizeOk] using hsz
  rcases id hs with ⟨os, hos, hcs, hds⟩
  have kind : s.TypeIs (.ref sl) "slice" := ⟨os, hos, hcs⟩
  have three : ∀ {A' : Around} {R : Value × Value × Value → Shared → Prop} {E' : Value → Shared → Prop}, R (.none, .none, vs) s → wpAny (model prog w) A' (Builtin.Slice.sliceFields (.ref sl)) R E' s := fun z => wpAny_bind (wpAny_field hos hds (x := .none) rfl (wpAny_bind (wpAny_field hos hds (x := .none) rfl (wpAny_bind (wpAny_field hos hds (x := vs) rfl (wpAny_pure z))))))
  unfold getItem
  try with_reducible refine wpAny_holding ?_
  first | refine wpAny_bind (wpAny_pure ?_) | skip
  refine wpAny_bind (wpAny_sequenceKey ht.typeIs (by decide) (wpAny_bind (wpAny_callSpecial?_slot (name := Str.ofString "__getitem__") ht.typeIs PyProof.Rows.slot_tuple_getitem (wpAny_call_entry PyProof.Rows.slot_tuple_getitem ht.typeIs entry_tuple_getitem ?_ (args_tuple_getitem _ _)))))
  change wpAny _ _ (Builtin.Tuple.tupleItemsOf (.ref t) >>= _) _ _ s
  refine wpAny_bind (tupleItemsOf_ ht (wpAny_bind (wpAny_typeOf kind ?_)))
  rw [if_pos (by decide)]
  unfold Builtin.Slice.sliceApplied
  refine wpAny_bind (wpAny_bind (three (wpAny_bind (slicePart_ ps ?_))))
  change wpAny _ _ (if ((-1 : Int) == 0) = true then _ else _) _ _ s
  rw [if_neg (by decide)]
  refine wpAny_bind (slicePart_none (wpAny_bind (slicePart_none (wpAny_bind (wpAny_pure ?_)))))
  have hadj : Builtin.Slice.sliceAdjust none none (-1) (items.size : Int) = ((items.size : Int) - 1, -1) := rfl
  have hpl : Builtin.Slice.slicePlaces ((items.size : Int) - 1) (-1) (-1) = items.size := by
    unfold Builtin.Slice.slicePlaces
    have h1 : ¬ ((-1 : Int) > 0) := by omega
    simp only [h1, if_false]
    split
    · have e : ((items.size : Int) - 1 - -1 - 1) / (- -1) = (items.size : Int) - 1 := by
        rw [show (- -1 : Int) = 1 by decide, Int.ediv_one]; omega
      rw [e]; omega
    · omega
  show wpAny _ _ (match Builtin.Slice.sliceAdjust none none (-1) (items.size : Int) with | (lo, hi) => pure (lo, (-1 : Int), Builtin.Slice.slicePlaces lo hi (-1))) _ _ s
  rw [hadj]
  show wpAny _ _ (pure ((items.size : Int) - 1, (-1 : Int), Builtin.Slice.slicePlaces ((items.size : Int) - 1) (-1) (-1))) _ _ s
  rw [hpl]
  refine wpAny_pure ?_
  have hno : ¬ ((((items.size : Int) - 1) == 0 && (-1 : Int) == 1 && items.size == items.size) = true) := by
    intro q
    rw [Bool.and_eq_true, Bool.and_eq_true] at q
    exact absurd q.1.2 (by decide)
  show wpAny _ _ (if (((items.size : Int) - 1) == 0 && (-1 : Int) == 1 && items.size == items.size) = true then _ else _) _ _ s
  rw [if_neg hno]
  have hpick : ((List.range items.size).filterMap fun (k : Nat) => items[((items.size : Int) - 1 + (k : Int) * -1).toNat]?).toArray = items.toList.reverse.toArray := by
    congr 1
    have e : (List.range items.size).filterMap (fun (k : Nat) => items[((items.size : Int) - 1 + (k : Int) * -1).toNat]?) = ((List.range items.size).map fun k => items.size - 1 - k).filterMap (items[·]?) := by
      rw [List.filterMap_map]
      refine fm_congr _ fun k hk => ?_
      have := List.mem_range.mp hk
      have e2 : ((items.size : Int) - 1 + (k : Int) * -1).toNat = items.size - 1 - k := by omega
      show _ = items[items.size - 1 - k]?
      rw [e2]
    rw [e, PySem.W.krv_range, List.filterMap_reverse, PySem.W.krv_all]
  rw [hpick]
  have made : ∀ {A' : Around} {R : Value → Shared → Prop} {E' : Value → Shared → Prop}, R (.ref s.heap.objs.size) { s with heap := s.heap.push { cls := .type "tuple", data := .seq items.toList.reverse.toArray } } → wpAny (model prog w) A' (Builtin.Tuple.tupleExact items.toList.reverse.toArray) R E' s := fun z => wpAny_newObj_type z htake
  first
    | exact wpAny_bind (made (wpAny_pure ⟨_, rfl, wpAny_pure h⟩))
    | exact wpAny_bind (made ⟨_, rfl, wpAny_pure h⟩)
    | exact wpAny_bind (wpAny_bind (made (wpAny_pure ⟨_, rfl, wpAny_pure h⟩)))
    | exact wpAny_bind (made (wpAny_bind (wpAny_pure ⟨_, rfl, wpAny_pure h⟩)))
end
end HT
namespace L2
open PySem PySem.Spec PyProof.Rows
section
variable {X : Cx}
/-- t[::-1], t a tuple -/
def tRevT (K : PySem.W.Frag) (te : TE) : TE := fun σ H Q => te σ H fun x H1 => ∃ a xs, x = .ref a ∧ SqT K H1 a xs ∧ ∀ p, H1 p = none → Q (.ref p) (upd H1 p (.tup xs.reverse))
theorem pe_revT {e : Expr} {te : TE} {k : Nat} {p1 p2 p3 pos : Pos} (he : PE X e te) : PE X (.Subscript e (.Slice none none (some (.UnaryOp .USub (.Constant (.int 1) k p1) p2)) p3) pos) (tRevT X.K te) := by
  constructor
  intro pins s0 σ H W J w
  have back : PO X (some (.UnaryOp .USub (.Constant (.int 1) k p1) p2)) (tPart (tUn (rU fun i => .int (-i)) (tC (.int 1)))) := po_some (pe_un un_neg pe_int)
  refine Subscript_ (thn (he.run pins s0 σ H _ J w) ?_)
  rintro _ s1 ⟨_, H1, J1, rel, a, xs, rfl, tup, w1⟩
  cases rel
  refine wpAny_Slice (thn (po_none.run pins s1 σ H1 (fun o G => o = none ∧ G = H1) J1 ⟨rfl, rfl⟩) ?_)
  rintro _ s2 ⟨_, _, J2, n2, rfl, rfl⟩
  refine thn (po_none.run pins s2 σ _ (fun o G => o = none ∧ G = _) J2 ⟨rfl, rfl⟩) ?_
  rintro _ s3 ⟨_, _, J3, n3, rfl, rfl⟩
  refine thn (back.run pins s3 σ _ (fun o G => o = some (-1) ∧ G = _) J3 ⟨1, rfl, -1, rfl, rfl, rfl⟩) ?_
  rintro step s4 ⟨_, _, J4, part, rfl, rfl⟩
  cases n2
  cases n3
  have J5 := J4.kept (t' := s4.toks) (h' := s4.heap.push { cls := .type "slice", data := .fields #[.none, .none, step] }) fun _ _ z => Heap.get?_push_of_some _ z
  obtain ⟨its, vals, isTup, line⟩ := J5.tuple tup
  have many : its.toArray.size ≤ sizeLine := by
    rw [List.size_toArray, ← vals.length]
    exact line
  change wpAny (model X.prog X.w) X.A (subscriptTail e (.Slice none none (some (.UnaryOp .USub (.Constant (.int 1) k p1) p2)) p3) (.ref a) (.ref s4.heap.objs.size)) (EP X pins σ W) X.xe { s4 with heap := s4.heap.push { cls := .type "slice", data := .fields #[.none, .none, step] } }
  refine tail_any (ops := [.ref a, .ref s4.heap.objs.size]) isTup.typeIs (PyProof.Rows.slot_tuple_getitem.lookup) (HT.getItem_tuple_rev isTup (Heap.IsSliceOf.new _ .none .none step) part ?_ many) (by with_unfolding_all rfl)
  have laid := J5.laid (t' := s4.toks) (o := .tup xs.reverse) (fun _ _ z => Heap.get?_push_of_some _ z) (Nat.le_refl _) ⟨by rw [List.length_reverse]; exact line, _, vals.reverse, IsTup.new _ _⟩
  exact ⟨.ref _, _, laid, rfl, w1 _ (J5.hok.fresh (Nat.le_refl _))⟩
/-! ### own operators -/
section
variable {CX : CXT} {n : Nat} {C g : Addr} {sp : Sp} {E : XK}
/-- x op y, both instances of the class at C, whose def for op is at g -/
def rOwnB (C : Addr) (sp : Sp) (E : XK) : R2 := fun x y H Q => ∃ a dx fs b dy gs, x = .ref a ∧ y = .ref b ∧ H a = some (.ins C dx fs) ∧ H b = some (.ins C dy gs) ∧ sp [x, y] H Q E
theorem op_ownB {op : Operator} (hc : PySem.W.selfFirst X.K C = true) (hs : PySem.W.findIn X.K (.ref C) (PySem.dunder op.info.2) = some (some (.ref g))) (hf : PySem.W.isFn X.K (.ref g) = true) (F : FnR X.prog X.w X.K X.mg X.base CX n g sp)
    (hr : Room n X.A) (hx : Passes CX X E) : OpR X (binaryOp op) (rOwnB C sp E) := by
  intro pins s σ H x y v u Q I rx ry h
  obtain ⟨a, dx, fs, b, dy, gs, rfl, rfl, ha, hb, q⟩ := h
  cases (show v = Value.ref a from rx)
  cases (show u = Value.ref b from ry)
  obtain ⟨mA, M, _⟩ := ins_get I.hok ha
  obtain ⟨mB, M', _⟩ := ins_get I.hok hb
  obtain ⟨od, J, _⟩ := M.look
  obtain ⟨od', J', _⟩ := M'.look
  obtain ⟨m, hF⟩ := I.fr
  refine PySem.W.binop_K hF I.ok.mod.kin J J'.type hc hs hf ?_
  refine wpAny_mono (wpAny_call (run_fnR (us := [.ref a, .ref b]) (vs := [.ref a, .ref b]) F hr hx I (.cons rfl (.cons rfl .nil)) q)) (fun w s' z => ?_) fun _ _ x => x
  obtain ⟨z', H', I', rz, qz⟩ := z
  exact SlX.cmpback rz ⟨z', H', I', rz, qz⟩
/-- -x, x an instance -/
def rOwnU (C : Addr) (sp : Sp) (E : XK) : V → Hp → VK → Prop := fun x H Q => ∃ a dx fs, x = .ref a ∧ H a = some (.ins C dx fs) ∧ sp [x] H Q E
theorem un_own (hs : PySem.W.findIn X.K (.ref C) "__neg__" = some (some (.ref g))) (hf : PySem.W.isFn X.K (.ref g) = true) (F : FnR X.prog X.w X.K X.mg X.base CX n g sp)
    (hr : Room n X.A) (hx : Passes CX X E) : UnR X (unaryOp .USub) (rOwnU C sp E) := by
  intro pins s σ H x v Q I rx h
  obtain ⟨a, dx, fs, rfl, ha, q⟩ := h
  cases (show v = Value.ref a from rx)
  obtain ⟨mA, M, _⟩ := ins_get I.hok ha
  obtain ⟨od, J, _⟩ := M.look
  unfold unaryOp
  refine wpAny_holding ?_
  show wpAny _ _ (if (UnaryOp.USub == UnaryOp.Not) = true then _ else _) _ _ s
  rw [if_neg (by decide)]
  refine wpAny_bind (m := callSpecial? (.ref a) "__neg__") (PySem.W.special_fn I.kIn J hs (beq_iff_eq.mp hf) ?_)
  refine wpAny_mono (wpAny_call (run_fnR (us := [.ref a]) (vs := [.ref a]) F hr hx I (.cons rfl .nil) q)) (fun w s' z => ?_) fun _ _ x => x
  exact wpAny_pure z
end
end
end L2

/-! xs[-2::-1], xs a list of at least one item: all but the last, reversed -/
namespace L2
open PySem PySem.Spec PyProof.Rows
section
variable {X : Cx}
def tBack2 (K : PySem.W.Frag) (te : TE) : TE := fun σ H Q => te σ H fun x H1 => ∃ a xs, x = .ref a ∧ SqL K H1 a xs ∧ xs ≠ [] ∧ ∀ p, H1 p = none → Q (.ref p) (upd H1 p (.lst xs.dropLast.reverse))
theorem pick_back2 (items : Array Value) (h : 0 < items.size) : slicePick items (some (-2)) none (some (-1)) = items.toList.dropLast.reverse.toArray := by
  have where_ : sliceBounds (some (-2)) none (some (-1)) items.size = ((((items.size - 1 : Nat) : Int) - 1), -1, -1) := by
    simp only [sliceBounds]
    simp
    omega
  have front := pick_run items 0 (items.size - 1)
  rw [show (List.range (items.size - 1)).map (0 + ·) = List.range (items.size - 1) from by simp, List.drop_zero] at front
  unfold slicePick
  rw [where_]
  change ((sliceRange (((items.size - 1 : Nat) : Int) - 1) (-1) (-1)).filterMap (items[·]?)).toArray = _
  rw [PySem.W.krv_sliceRange, PySem.W.krv_range, List.filterMap_reverse, front, List.dropLast_eq_take, Array.length_toList]
theorem vals_init {xs : List V} {its : List Value} (r : Vals xs its) : Vals xs.dropLast its.dropLast := by
  simpa [List.dropLast_eq_take, r.length] using r.take (its.length - 1)
theorem pe_back2 {e : Expr} {te : TE} {k k2 : Nat} {p1 p2 p3 p4 p5 pos : Pos} (he : PE X e te) : PE X (.Subscript e (.Slice (some (.UnaryOp .USub (.Constant (.int 2) k2 p4) p5)) none (some (.UnaryOp .USub (.Constant (.int 1) k p1) p2)) p3) pos) (tBack2 X.K te) := by
  constructor
  intro pins s0 σ H W J w
  have minus : ∀ (m : Int) (k : Nat) (p q : Pos), PO X (some (.UnaryOp .USub (.Constant (.int m) k p) q)) (tPart (tUn (rU fun i => .int (-i)) (tC (.int m)))) := fun _ _ _ _ => po_some (pe_un un_neg pe_int)
  refine Subscript_ (thn (he.run pins s0 σ H _ J w) ?_)
  rintro _ s1 ⟨_, H1, J1, rel, a, xs, rfl, lst, some_, w1⟩
  cases rel
  refine wpAny_Slice (thn ((minus 2 k2 p4 p5).run pins s1 σ H1 (fun o G => o = some (-2) ∧ G = H1) J1 ⟨2, rfl, -2, rfl, rfl, rfl⟩) ?_)
  rintro low s2 ⟨_, _, J2, n2, rfl, rfl⟩
  refine thn (po_none.run pins s2 σ _ (fun o G => o = none ∧ G = _) J2 ⟨rfl, rfl⟩) ?_
  rintro up s3 ⟨_, _, J3, n3, rfl, rfl⟩
  refine thn ((minus 1 k p1 p2).run pins s3 σ _ (fun o G => o = some (-1) ∧ G = _) J3 ⟨1, rfl, -1, rfl, rfl, rfl⟩) ?_
  rintro step s4 ⟨_, _, J4, part, rfl, rfl⟩
  have J5 := J4.kept (t' := s4.toks) (h' := s4.heap.push { cls := .type "slice", data := .fields #[low, up, step] }) fun _ _ z => Heap.get?_push_of_some _ z
  obtain ⟨its, vals, isL, line⟩ := J5.list lst
  have many : its.toArray.size ≤ sizeLine := by
    rw [List.size_toArray, ← vals.length]
    exact line
  have any_ : 0 < its.toArray.size := by
    rw [List.size_toArray, ← vals.length]
    exact List.length_pos_iff.mpr some_
  change wpAny (model X.prog X.w) X.A (subscriptTail e (.Slice (some (.UnaryOp .USub (.Constant (.int 2) k2 p4) p5)) none (some (.UnaryOp .USub (.Constant (.int 1) k p1) p2)) p3) (.ref a) (.ref s4.heap.objs.size)) (EP X pins σ W) X.xe { s4 with heap := s4.heap.push { cls := .type "slice", data := .fields #[low, up, step] } }
  refine tail_any (ops := [.ref a, .ref s4.heap.objs.size]) isL.isList.typeIs (PySem.slot_list_getitem.lookup) (wpAny_getItem_list_slice isL.isList (Heap.IsSliceOf.new _ low up step) n2 n3 part (by decide) ?_ many) (by with_unfolding_all rfl)
  have short : xs.dropLast.reverse.length ≤ sizeLine := by
    rw [List.length_reverse, List.length_dropLast]
    omega
  have laid := J5.laid (t' := s4.toks) (o := .lst xs.dropLast.reverse) (fun _ _ z => Heap.get?_push_of_some _ z) (Nat.le_refl _) ⟨short, _, 0, (vals_init vals).reverse, Heap.get?_push_size _ rfl⟩
  rw [pick_back2 _ any_]
  exact ⟨.ref _, _, laid, rfl, w1 _ (J5.hok.fresh (Nat.le_refl _))⟩
end
end L2

namespace S75
open PySem L2 SR
def top (i : Nat) : Stmt := PySem.Challenge.pw_slotsums_k75_sign_runs_far_away.main.body.getD i (.Pass ⟨0, 0, 0, 0⟩)
abbrev sIsInt : Stmt := top 5
abbrev sAdded : Stmt := top 7
abbrev sMult : Stmt := top 8
abbrev sOpp : Stmt := top 9
abbrev sPInit : Stmt := inClass (top 13) 0
abbrev sPDeg : Stmt := inClass (top 13) 1
abbrev sPCoef : Stmt := inClass (top 13) 2
abbrev sPAt : Stmt := inClass (top 13) 3
abbrev sPAdd : Stmt := inClass (top 13) 4
abbrev sPSub : Stmt := inClass (top 13) 5
abbrev sPMul : Stmt := inClass (top 13) 6
abbrev sPNeg : Stmt := inClass (top 13) 7
abbrev sRowOf : Stmt := top 14
abbrev sSignAt : Stmt := top 15
abbrev sStepOf : Stmt := top 16
abbrev sFirst : Stmt := top 17
abbrev sRunsIn : Stmt := top 18
abbrev sJoined : Stmt := top 19
abbrev sOneSign : Stmt := top 20
abbrev sSignRuns : Stmt := top 21
abbrev sPot : Stmt := top 23
abbrev sDigit : Stmt := top 24
abbrev sPick : Stmt := top 25
abbrev sValue : Stmt := top 26
abbrev sSign : Stmt := top 27
abbrev sMoved : Stmt := top 28
abbrev sPoly : Stmt := top 29
abbrev sDue : Stmt := top 30
abbrev sRight : Stmt := top 31
abbrev sLaw : Stmt := top 32

/-! ### heaps -/
theorem sNew {H H1 : Hp} {p : Addr} {o : HO} (s : Same H H1) (n : H1 p = none) : Same H (upd H1 p o) := fun b x e => by
  have h := s b x e
  rw [upd_ne (ne_of_none h n)]
  exact h
theorem sPut {H H1 : Hp} {p : Addr} {o : HO} (s : Same H H1) (n : H p = none) : Same H (upd H1 p o) := fun b x e => by
  rw [upd_ne (ne_of_none e n)]
  exact s b x e
theorem old {H : Hp} {p q : Addr} {o x : HO} (h : H q = some x) (n : H p = none) : upd H p o q = some x := by
  rw [upd_ne (ne_of_none h n)]; exact h
theorem sTup {K : PySem.W.Frag} {H H' : Hp} {a : Addr} {xs : List V} (e : Same H H') (h : SqT K H a xs) : SqT K H' a xs := by
  rcases h with (h | ⟨o, h⟩) | h
  · exact .inl (.inl (e _ _ h))
  · exact .inl (.inr ⟨o, e _ _ h⟩)
  · exact .inr h
/-- a list or a tuple of integers -/
def RowIs (K : PySem.W.Frag) (H : Hp) (a : Addr) (r : List Int) : Prop := SqL K H a (r.map V.int) ∨ SqT K H a (r.map V.int)
theorem RowIs.same {K : PySem.W.Frag} {H H' : Hp} {a : Addr} {r : List Int} (e : Same H H') (h : RowIs K H a r) : RowIs K H' a r := h.imp (e.seq) (sTup e)
theorem lt_line {n : Nat} (h : n ≤ 100000) : n < sizeLine := Nat.lt_of_le_of_lt h (by decide)
theorem le_line {n : Nat} (h : n ≤ 100000) : n ≤ sizeLine := Nat.le_trans h (by decide)
theorem map_get {α : Type} {l : List α} {f : α → V} {i : Nat} {y : V} (h : (l.map f)[i]? = some y) : ∃ a, l[i]? = some a ∧ y = f a := by
  rw [List.getElem?_map] at h
  cases e : l[i]? with
  | none => rw [e] at h; cases h
  | some a => rw [e] at h; exact ⟨a, rfl, (Option.some.inj h).symm⟩
theorem take_succ_map {α : Type} {l : List α} {f : α → V} {i : Nat} {a : α} (h : l[i]? = some a) : (l.take i).map f ++ [f a] = (l.take (i + 1)).map f := by
  rw [List.take_add_one, h]; simp

/-! ### made instances: without arguments, by a star alone -/
section
variable {X : Cx} {CX : CXT} {k : Nat} {f C : Addr} {sp : Sp} {E : XK} {x : Str} {e : Expr} {te : TE} {p pos sp_ : Pos}
theorem pe_makeR0 (M : Mk X.K C f) (F : FnR X.prog X.w X.K X.mg X.base CX k f sp) (hr : Room (k + 1) X.A) (hg : Gl X x) (hm : X.mg x = some (.ref C)) (hx : Passes CX X E) (hdb : (x == ("__debug__" : Str)) = false := by decide) :
    PE X (.Call (.Name x p) [] [] pos) (StX.tMakeR C sp E tNil) := by
  refine ⟨fun pins s σ H Q I h => ?_⟩
  refine wpAny_Call_Name_kw (ld_glob I hg hm ?_ hdb)
  exact PySem.W.callWith_K0 I.kIn M.kp (StX.run_makeR (us := []) M F hr hx I .nil h)
def tMakeS (K : PySem.W.Frag) (C : Addr) (sp : Sp) (E : XK) (te : TE) : TE := fun σ H Q => te σ H fun y H1 => ∃ a xs, y = V.ref a ∧ (SqT K H1 a xs ∨ SqL K H1 a xs) ∧ ∀ x dx, H1 x = Option.none → H1 dx = Option.none → dx ≠ x →
  sp (V.ref x :: xs) (upd (upd H1 dx (.own x)) x (.ins C dx [])) (fun v H2 => v = .non ∧ Q (.ref x) H2) E
theorem pe_makeS (M : Mk X.K C f) (F : FnR X.prog X.w X.K X.mg X.base CX k f sp) (hr : Room (k + 1) X.A) (hg : Gl X x) (hm : X.mg x = some (.ref C)) (hx : Passes CX X E) (he : PE X e te) (hdb : (x == ("__debug__" : Str)) = false := by decide)
    (hst : starEach [.Starred e sp_] X.env = [(true, eval e X.env)] := by rfl) : PE X (.Call (.Name x p) [.Starred e sp_] [] pos) (tMakeS X.K C sp E te) := by
  refine ⟨fun pins s σ H Q I h => ?_⟩
  refine wpAny_Call_Name_kw (ld_glob I hg hm ?_ hdb)
  refine PySem.W.callWith_S (h₀ := X.base) I.ok.mod.kin M.kp (thn (he.run pins s σ H _ I h) fun v s1 ⟨y, H1, I1, ry, a, xs, ey, hxs, q⟩ => ?_) hst
  subst ey
  obtain rfl : v = Value.ref a := ry
  exact StX.star_any I1 hxs fun us s2 I2 rv => ⟨I2.kIn, StX.run_makeR M F hr hx I2 rv q⟩
theorem PE.imp {e : Expr} {t t' : TE} (h : PE X e t) (i : ∀ σ H Q, t' σ H Q → t σ H Q) : PE X e t' := ⟨fun pins s σ H Q I q => h.run pins s σ H Q I (i σ H Q q)⟩
end

/-! ### the built-in names -/
structure Bn (mg : Str → Option Value) : Prop where
  isi : mg "isinstance" = none
  int : mg "int" = none
  bool : mg "bool" = none
  len : mg "len" = none
  list : mg "list" = none
  max : mg "max" = none
  min : mg "min" = none
  sum : mg "sum" = none
  zip : mg "zip" = none
  range : mg "range" = none
  tuple : mg "tuple" = none
  enum : mg "enumerate" = none
  any : mg "any" = none
  all : mg "all" = none
  abs : mg "abs" = none
  divmod : mg "divmod" = none
/-- a def of the module by its name -/
structure Df (P : Program) (w : World) (K : PySem.W.Frag) (mg : Str → Option Value) (base : Heap) (x : Str) (ps : List Str) (k : Nat) (sp : Sp) : Prop where
  ex : ∃ f fd, mg x = some (.ref f) ∧ PySem.W.keepIn K (.ref f) = true ∧ Binds K fd ps [] ∧ FnOk P w K mg base CX0 k f fd ps sp
theorem pe_df {X : Cx} {x : Str} {ps : List Str} {k : Nat} {sp : Sp} {e : Expr} {es : List Expr} {t : TA} {p pos : Pos} (D : Df X.prog X.w X.K X.mg X.base x ps k sp) (hr : Room k X.A) (hg : Gl X x) (ha : PA X (e :: es) t)
    (hdb : (x == ("__debug__" : Str)) = false := by decide) (hst : starEach (e :: es) X.env = (false, eval e X.env) :: starEach es X.env := by rfl) (hpl : (backTo pos (starEach es X.env)).any (·.1) = false := by rfl) :
    PE X (.Call (.Name x p) (e :: es) [] pos) (tCall sp [] E0 t) := by
  obtain ⟨f, fd, hm, kp, b, F⟩ := D.ex
  exact pe_call F hr hg hm kp b .nil pass0 ha (hdb := hdb) (he := hst) (hpl := hpl)

section
variable {P : Program} {w : World} {K : PySem.W.Frag} {mg : Str → Option Value} {base : Heap}
/-! ### is_integer -/
def spIsInt : Sp := fun vs H Q _ => ∃ i : Int, vs = [.int i] ∧ Q (.bl true) H
theorem scIsInt : FnScope ["value"] ["value"] (defScope sIsInt) := ⟨rfl, rfl, rfl, by decide +kernel, rfl, by decide +kernel, by decide +kernel⟩
theorem ok_isInt {f : Addr} {fd : FuncData} (F : Fun K "is_integer" "is_integer" sIsInt f fd) (T : Bn mg) : FnOk P w K mg base CX0 1 f fd ["value"] spIsInt := by
  refine F.ok scIsInt (fun vs H Q E h => ?_) (fun cdv A outer s H vs Q E hr h => ?_)
  · obtain ⟨i, rfl, _⟩ := h
    rfl
  · obtain ⟨i, rfl, q⟩ := h
    refine ⟨_, pss_one (ps_ret (pe_and (pe_callB call_isi (by rfl) T.isi (by decide +kernel) (pa_cons (pv 0) (pa_cons (pe_bltn (v := .ty "int") (by rfl) T.int (by decide +kernel) rfl) pa_nil)))
      (pe_one (pe_not (pe_callB call_isi (by rfl) T.isi (by decide +kernel) (pa_cons (pv 0) (pa_cons (pe_bltn (v := .ty "bool") (by rfl) T.bool (by decide +kernel) rfl) pa_nil))))))), ?_⟩
    refine ⟨_, rfl, _, _, _, _, true, rfl, .ty "int", .base (.int i), kit_ty (by decide +kernel), true, rfl, iteT ?_⟩
    exact ⟨_, rfl, _, _, _, _, false, rfl, .ty "bool", .base (.int i), kit_ty (by decide +kernel), false, rfl, q⟩
/-! ### opposite_row -/
def spOpp (K : PySem.W.Frag) : Sp := fun vs H Q _ => ∃ (a : Addr) (r : List Int), vs = [.ref a] ∧ SqT K H a (r.map V.int) ∧ r.length ≤ 1000 ∧ ∀ H' p, Same H H' → H p = none → H' p = some (.lst ((oppR r).map V.int)) → Q (.ref p) H'
theorem scOpp : FnScope ["row", "one"] ["row"] (defScope sOpp) := ⟨rfl, rfl, rfl, by decide +kernel, rfl, by decide +kernel, by decide +kernel⟩
theorem ok_opp {f : Addr} {fd : FuncData} (F : Fun K "opposite_row" "opposite_row" sOpp f fd) (T : Bn mg) : FnOk P w K mg base CX0 1 f fd ["row"] (spOpp K) := by
  refine F.ok scOpp (fun vs H Q E h => ?_) (fun cdv A outer s H vs Q E hr h => ?_)
  · obtain ⟨a, r, rfl, _⟩ := h
    rfl
  · obtain ⟨a, r, rfl, hr1, hlen, q⟩ := h
    refine ⟨_, pss_one (ps_ret (pe_lc (own := [("one", 1)]) (g := gName 1) (tt := tYes) (by rfl) scOpp.nd (pi_tup (pv 0)) (blkOk_by (own := [("one", 1)]) (N := ["row", "one"]) (sc := defScope sOpp) (by decide +kernel))
      (fun _ _ _ _ _ => pg_name (i := 1) scOpp.nd rfl (Or.inl rfl)) (fun _ _ _ _ _ => pts_nil) (fun _ _ _ _ _ => pe_op op_sub pe_int (pv 1)))), ?_⟩
    refine ⟨_, rfl, a, rfl, ⟨_, hr1⟩, fun D hD => ?_⟩
    refine lc_it (walk_tup (K := K) (a := a) (xs := r.map V.int)) (fun i H' => Same H H' ∧ H' D = some (.lst (((oppR r).take i).map V.int))) ⟨sNew (Same.refl H) hD, upd_same⟩ (fun i H' _ h => sTup h.1 hr1) ?_ ?_
    · rintro i x H' _ hi ⟨s1, h1⟩ ⟨rfl, hx⟩
      obtain ⟨z, hz, rfl⟩ := map_get hx
      refine ⟨rfl, _, rfl, _, _, rfl, rfl, _, h1, ?_, sPut s1 hD, ?_⟩
      · have : i < r.length := by simpa using hi
        simp only [List.length_map, List.length_take]
        exact lt_line (by omega)
      · rw [upd_same]
        congr 2
        refine take_succ_map ?_
        unfold oppR
        rw [List.getElem?_map, hz]; rfl
    · rintro H' ⟨s1, h1⟩
      refine q H' D s1 hD ?_
      rw [h1]
      congr 3
      unfold oppR
      rw [List.take_of_length_le]
      simp
end
end S75

namespace S75
open PySem L2 SR
theorem rep_flat (n : Nat) : (List.replicate n [V.int 0]).flatten = (List.replicate n (0 : Int)).map V.int := by
  induction n with
  | zero => rfl
  | succ n ih => rw [List.replicate_succ, List.flatten_cons, ih, List.replicate_succ]; rfl
section
variable {P : Program} {w : World} {K : PySem.W.Frag} {mg : Str → Option Value} {base : Heap}
/-! ### added_rows -/
def spAdded (K : PySem.W.Frag) : Sp := fun vs H Q _ => ∃ (a b : Addr) (r q : List Int), vs = [.ref a, .ref b] ∧ RowIs K H a r ∧ RowIs K H b q ∧ r.length ≤ 100 ∧ q.length ≤ 100 ∧
  ∀ H' p, Same H H' → H p = none → H' p = some (.lst ((addR r q).map V.int)) → Q (.ref p) H'
abbrev nAdded : List Str := ["one", "other", "wide", "first", "second", "left", "right"]
theorem scAdded : FnScope nAdded ["one", "other"] (defScope sAdded) := ⟨rfl, rfl, rfl, by decide +kernel, rfl, by decide +kernel, by decide +kernel⟩
theorem ok_added {f : Addr} {fd : FuncData} (F : Fun K "added_rows" "added_rows" sAdded f fd) (T : Bn mg) : FnOk P w K mg base CX0 1 f fd ["one", "other"] (spAdded K) := by
  refine F.ok scAdded (fun vs H Q E h => ?_) (fun cdv A outer s H vs Q E hr h => ?_)
  · obtain ⟨a, b, r, q, rfl, _⟩ := h
    rfl
  · obtain ⟨a, b, r, q, rfl, ha, hb, lr, lq, k⟩ := h
    refine ⟨_, pss_cons (ps_set (i := 2) scAdded.nd rfl (Or.inl rfl) (pe_callB (call_max2 rfl) (by rfl) T.max (by decide +kernel) (pa_cons (pe_callB call_len_seq (by rfl) T.len PySem.boot_len (pa_cons (pv 0) pa_nil))
        (pa_cons (pe_callB call_len_seq (by rfl) T.len PySem.boot_len (pa_cons (pv 1) pa_nil)) pa_nil))))
      (pss_cons (ps_par (i := 3) (j := 4) (by rfl) scAdded.nd rfl rfl (by decide) rfl rfl
        (pa_cons (pe_op op_cat (pe_callTy call_list_of (by rfl) T.list (by decide +kernel) (pa_cons (pv 0) pa_nil)) (pe_op op_rep (pe_lst (pa_cons pe_int pa_nil)) (pe_op op_sub (pv 2) (pe_callB call_len_seq (by rfl) T.len PySem.boot_len (pa_cons (pv 0) pa_nil)))))
        (pa_cons (pe_op op_cat (pe_callTy call_list_of (by rfl) T.list (by decide +kernel) (pa_cons (pv 1) pa_nil)) (pe_op op_rep (pe_lst (pa_cons pe_int pa_nil)) (pe_op op_sub (pv 2) (pe_callB call_len_seq (by rfl) T.len PySem.boot_len (pa_cons (pv 1) pa_nil))))) pa_nil)) (by rfl))
      (pss_one (ps_ret (pe_lc (own := [("left", 5), ("right", 6)]) (g := gTup K 2 (gCons (gName 5) (gCons (gName 6) gNil))) (tt := tYes) (by rfl) scAdded.nd (pi_zip (by rfl) T.zip (pa_cons (pv 3) (pa_cons (pv 4) pa_nil)))
        (blkOk_by (own := [("left", 5), ("right", 6)]) (N := nAdded) (sc := defScope sAdded) (by decide +kernel))
        (fun _ _ _ _ _ => pg_tup rfl (pgs_cons (pg_name (i := 5) scAdded.nd rfl (Or.inl rfl)) (pgs_cons (pg_name (i := 6) scAdded.nd rfl (Or.inl rfl)) pgs_nil))) (fun _ _ _ _ _ => pts_nil) (fun _ _ _ _ _ => pe_op op_add (pv 5) (pv 6)))))), ?_⟩
    refine ⟨_, rfl, a, _, rfl, ha, _, rfl, b, _, rfl, hb, _, _, rfl, ?_⟩
    have hw : (if (((q.map V.int).length : Nat) : Int) > (((r.map V.int).length : Nat) : Int) then (((q.map V.int).length : Nat) : Int) else (((r.map V.int).length : Nat) : Int)) = ((max r.length q.length : Nat) : Int) := by
      simp only [List.length_map]; split <;> omega
    rw [hw]
    -- first
    refine ⟨_, rfl, a, _, rfl, ha, fun l1 h1 => ?_⟩
    have s1 : Same H (upd H l1 (.lst (r.map V.int))) := sNew (Same.refl H) h1
    refine ⟨(by show 1 ≤ sizeLine; decide), fun l2 h2 => ?_⟩
    have s2 := sNew (o := .lst [V.int 0]) s1 h2
    refine ⟨_, rfl, _, rfl, a, _, rfl, ha.same s2, _, _, rfl, rfl, ?_⟩
    have hk : (((max r.length q.length : Nat) : Int) - (((r.map V.int).length : Nat) : Int)) = ((max r.length q.length - r.length : Nat) : Int) := by rw [List.length_map]; omega
    refine ⟨l2, _, _, rfl, congrArg V.int hk, upd_same, by omega, by omega, by rw [Int.toNat_natCast]; exact le_line (by show 1 * _ ≤ _; omega), fun l3 h3 => ?_⟩
    rw [Int.toNat_natCast, rep_flat]
    have s3 := sNew (o := .lst ((List.replicate (max r.length q.length - r.length) (0 : Int)).map V.int)) s2 h3
    refine ⟨l1, l3, r.map V.int, _, rfl, rfl, old (old upd_same h2) h3, upd_same, le_line (by simp only [List.length_map, List.length_replicate]; omega), fun l4 h4 => ?_⟩
    rw [← List.map_append]
    have s4 := sNew (o := .lst ((r ++ List.replicate (max r.length q.length - r.length) (0 : Int)).map V.int)) s3 h4
    -- second
    refine ⟨_, rfl, b, _, rfl, hb.same s4, fun m1 g1 => ?_⟩
    have t1 := sNew (o := .lst (q.map V.int)) s4 g1
    refine ⟨(by show 1 ≤ sizeLine; decide), fun m2 g2 => ?_⟩
    have t2 := sNew (o := .lst [V.int 0]) t1 g2
    refine ⟨_, rfl, _, rfl, b, _, rfl, hb.same t2, _, _, rfl, rfl, ?_⟩
    have hk2 : (((max r.length q.length : Nat) : Int) - (((q.map V.int).length : Nat) : Int)) = ((max r.length q.length - q.length : Nat) : Int) := by rw [List.length_map]; omega
    refine ⟨m2, _, _, rfl, congrArg V.int hk2, upd_same, by omega, by omega, by rw [Int.toNat_natCast]; exact le_line (by show 1 * _ ≤ _; omega), fun m3 g3 => ?_⟩
    rw [Int.toNat_natCast, rep_flat]
    have t3 := sNew (o := .lst ((List.replicate (max r.length q.length - q.length) (0 : Int)).map V.int)) t2 g3
    refine ⟨m1, m3, q.map V.int, _, rfl, rfl, old (old upd_same g2) g3, upd_same, le_line (by simp only [List.length_map, List.length_replicate]; omega), fun m4 g4 => ?_⟩
    rw [← List.map_append]
    have t4 := sNew (o := .lst ((q ++ List.replicate (max r.length q.length - q.length) (0 : Int)).map V.int)) t3 g4
    refine ⟨_, _, rfl, ?_⟩
    -- the sums
    generalize hH4 : upd (upd (upd (upd (upd (upd (upd (upd H l1 (HO.lst (r.map V.int))) l2 _) l3 _) l4 _) m1 _) m2 _) m3 _) m4 _ = H4 at t4 ⊢
    have hL4 : SqL K H4 l4 ((r ++ List.replicate (max r.length q.length - r.length) (0 : Int)).map V.int) := by
      rw [← hH4]; exact SqL.of (old (old (old (old upd_same g1) g2) g3) g4)
    have hM4 : SqL K H4 m4 ((q ++ List.replicate (max r.length q.length - q.length) (0 : Int)).map V.int) := by
      rw [← hH4]; exact SqL.of upd_same
    refine ⟨_, rfl, _, rfl, l4, m4, _, _, rfl, hL4, hM4, fun D hD => ?_⟩
    have e := pad_add r q
    refine lc_it (walk_zip (K := K) (a := l4) (b := m4) (n := (addR r q).length) (by rw [len_addR]; simp only [List.length_map, List.length_append, List.length_replicate]; omega))
      (fun i H' => Same H4 H' ∧ H' D = some (.lst (((addR r q).take i).map V.int))) ⟨sNew (Same.refl H4) hD, upd_same⟩ (fun i H' _ h => ⟨h.1.seq hL4, h.1.seq hM4⟩) ?_ ?_
    · rintro i x H' _ hi ⟨u1, w1⟩ ⟨TT, x1, x2, rfl, hT, rfl, e1, e2⟩
      obtain ⟨z1, z1e, rfl⟩ := map_get e1
      obtain ⟨z2, z2e, rfl⟩ := map_get e2
      refine ⟨TT, _, rfl, .inl (.inl upd_same), rfl, _, _, rfl, _, _, rfl, rfl, rfl, ?_⟩
      refine ⟨_, rfl, _, rfl, _, _, rfl, rfl, _, old w1 hT, ?_, sPut (sNew u1 hT) hD, ?_⟩
      · rw [len_addR] at hi
        simp only [List.length_map, List.length_take]
        exact lt_line (by omega)
      · rw [upd_same]
        congr 2
        refine take_succ_map ?_
        rw [← e, List.getElem?_zipWith, z1e, z2e]
    · rintro H' ⟨u1, w1⟩
      refine k H' D (Same.trans t4 u1) (t4.free hD) ?_
      rw [w1, List.take_of_length_le (Nat.le_refl _)]
end
end S75

namespace S75
open PySem L2 SR
def lcScope : Expr → Scope
  | .ListComp _ _ sc _ => sc
  | _ => { kind := .function, names := [], isGenerator := false, isCoroutine := false }
def retE : Stmt → Expr
  | .Return (some e) _ => e
  | _ => .Constant .none 0 ⟨0, 0, 0, 0⟩
theorem getD_pad {r : List Int} {k i : Nat} (h : i < r.length + k) : (r ++ List.replicate k 0)[i]? = some (r.getD i 0) := by
  rw [List.getD_eq_getElem?_getD]
  by_cases hi : i < r.length
  · rw [List.getElem?_append_left hi, List.getElem?_eq_getElem hi]; rfl
  · rw [List.getElem?_append_right (by omega), List.getElem?_replicate, if_pos (by omega), List.getElem?_eq_none (by omega)]; rfl
section
variable {P : Program} {w : World} {K : PySem.W.Frag} {mg : Str → Option Value} {base : Heap}
/-! ### multiplied_rows -/
def spMult (K : PySem.W.Frag) : Sp := fun vs H Q _ => ∃ (a b : Addr) (r q : List Int) (n m : Nat), vs = [.ref a, .ref b] ∧ RowIs K H a r ∧ RowIs K H b q ∧ r.length ≤ 100 ∧ q.length ≤ 100 ∧ Bd n r ∧ Bd m q ∧ n ≤ 2000 ∧ m ≤ 2000 ∧
  ∀ H' p, Same H H' → H p = none → H' p = some (.lst ((mulR r q).map V.int)) → Q (.ref p) H'
abbrev nMult : List Str := ["one", "other", "first", "second", "at", "low"]
theorem scMult : FnScope nMult ["one", "other"] (defScope sMult) := ⟨rfl, rfl, rfl, by decide +kernel, rfl, by decide +kernel, by decide +kernel⟩
def tIn (K : PySem.W.Frag) : TE := tOp (rI CMulW fun i j => .int (i * j)) (tOp (rIxL K) (tVar 2) (tVar 5)) (tOp (rIxL K) (tVar 3) (tOp (rI0 fun i j => .int (i - j)) (tVar 4) (tVar 5)))
def tEl (K : PySem.W.Frag) : TE := tCB (rSum K) (tCons (tLc (iRng1 (tCons (tOp (rI0 fun i j => .int (i + j)) (tVar 4) (tC (.int 1))) tNil)) (gName 5) tYes (tIn K) [5]) tNil)
theorem ok_mult {f : Addr} {fd : FuncData} (F : Fun K "multiplied_rows" "multiplied_rows" sMult f fd) (T : Bn mg) : FnOk P w K mg base CX0 1 f fd ["one", "other"] (spMult K) := by
  refine F.ok scMult (fun vs H Q E h => ?_) (fun cdv A outer s H vs Q E hr h => ?_)
  · obtain ⟨a, b, r, q, n, m, rfl, _⟩ := h
    rfl
  · obtain ⟨a, b, r, q, n, m, rfl, ha, hb, lr, lq, br, bq, hn, hm, k⟩ := h
    refine ⟨_, pss_cons (ps_asg (pe_tup
        (pa_cons (pe_op op_cat (pe_callTy call_list_of (by rfl) T.list (by decide +kernel) (pa_cons (pv 0) pa_nil)) (pe_op op_rep (pe_lst (pa_cons pe_int pa_nil)) (pe_callB call_len_seq (by rfl) T.len PySem.boot_len (pa_cons (pv 1) pa_nil))))
        (pa_cons (pe_op op_cat (pe_callTy call_list_of (by rfl) T.list (by decide +kernel) (pa_cons (pv 1) pa_nil)) (pe_op op_rep (pe_lst (pa_cons pe_int pa_nil)) (pe_callB call_len_seq (by rfl) T.len PySem.boot_len (pa_cons (pv 0) pa_nil)))) pa_nil)))
        (pg_tup rfl (pgs_cons (pg_name (i := 2) scMult.nd rfl (Or.inr rfl)) (pgs_cons (pg_name (i := 3) scMult.nd rfl (Or.inr rfl)) pgs_nil))))
      (pss_one (ps_ret (pe_lc (own := [("at", 4)]) (g := gName 4) (tt := tYes) (te := tEl K) (by rfl) scMult.nd (pi_range1 (by rfl) T.range (pa_cons (pe_callB call_len_seq (by rfl) T.len PySem.boot_len (pa_cons (pv 2) pa_nil)) pa_nil))
        (blkOk_by (own := [("at", 4)]) (N := nMult) (sc := defScope sMult) (by decide +kernel))
        (fun _ _ _ _ _ => pg_name (i := 4) scMult.nd rfl (Or.inr rfl)) (fun _ _ _ _ _ => pts_nil)
        (fun _ _ _ _ _ => pe_callB (id := "sum") (r := rSum K) (cr_sum rfl) (by rfl) T.sum (by decide +kernel) (pa_cons
          (pe_lc (own := [("low", 5)]) (g := gName 5) (tt := tYes) (te := tIn K) (by rfl) scMult.nd (pi_range1 (by rfl) T.range (pa_cons (pe_op op_add (pv 4) pe_int) pa_nil))
            (blkOk_by (own := [("low", 5)]) (N := nMult) (sc := relS (lcScope (retE ((defBody sMult).getD 1 (.Pass ⟨0, 0, 0, 0⟩)))) (defScope sMult)) (by decide +kernel))
            (fun _ _ _ _ _ => pg_name (i := 5) scMult.nd rfl (Or.inl rfl)) (fun _ _ _ _ _ => pts_nil)
            (fun _ _ _ _ _ => pe_op op_mulW (pe_ix ix_list (pv 2) (pv 5) (fun _ _ => rfl)) (pe_ix ix_list (pv 3) (pe_op op_sub (pv 4) (pv 5)) (fun _ _ => rfl))))
          pa_nil))))), ?_⟩
    -- first
    refine ⟨_, rfl, a, _, rfl, ha, fun l1 h1 => ?_⟩
    have s1 : Same H (upd H l1 (.lst (r.map V.int))) := sNew (Same.refl H) h1
    refine ⟨(by show 1 ≤ sizeLine; decide), fun l2 h2 => ?_⟩
    have s2 := sNew (o := .lst [V.int 0]) s1 h2
    refine ⟨_, rfl, b, _, rfl, hb.same s2, l2, _, _, rfl, rfl, upd_same, by omega, by rw [List.length_map]; omega, by rw [Int.toNat_natCast, List.length_map]; exact le_line (by show 1 * _ ≤ _; omega), fun l3 h3 => ?_⟩
    rw [Int.toNat_natCast, rep_flat, List.length_map]
    have s3 := sNew (o := .lst ((List.replicate q.length (0 : Int)).map V.int)) s2 h3
    refine ⟨l1, l3, r.map V.int, _, rfl, rfl, old (old upd_same h2) h3, upd_same, le_line (by simp only [List.length_map, List.length_replicate]; omega), fun l4 h4 => ?_⟩
    rw [← List.map_append]
    have s4 := sNew (o := .lst ((r ++ List.replicate q.length (0 : Int)).map V.int)) s3 h4
    -- second
    refine ⟨_, rfl, b, _, rfl, hb.same s4, fun m1 g1 => ?_⟩
    have t1 := sNew (o := .lst (q.map V.int)) s4 g1
    refine ⟨(by show 1 ≤ sizeLine; decide), fun m2 g2 => ?_⟩
    have t2 := sNew (o := .lst [V.int 0]) t1 g2
    refine ⟨_, rfl, a, _, rfl, ha.same t2, m2, _, _, rfl, rfl, upd_same, by omega, by rw [List.length_map]; omega, by rw [Int.toNat_natCast, List.length_map]; exact le_line (by show 1 * _ ≤ _; omega), fun m3 g3 => ?_⟩
    rw [Int.toNat_natCast, rep_flat, List.length_map]
    have t3 := sNew (o := .lst ((List.replicate r.length (0 : Int)).map V.int)) t2 g3
    refine ⟨m1, m3, q.map V.int, _, rfl, rfl, old (old upd_same g2) g3, upd_same, le_line (by simp only [List.length_map, List.length_replicate]; omega), fun m4 g4 => ?_⟩
    rw [← List.map_append]
    have t4 := sNew (o := .lst ((q ++ List.replicate r.length (0 : Int)).map V.int)) t3 g4
    refine ⟨(by show 2 ≤ sizeLine; decide), fun tt htt => ?_⟩
    have t5 := sNew (o := .tup [V.ref l4, V.ref m4]) t4 htt
    refine ⟨tt, _, rfl, .inl (.inl upd_same), rfl, _, _, rfl, _, _, rfl, rfl, ?_⟩
    generalize hH4 : upd (upd (upd (upd (upd (upd (upd (upd (upd H l1 (HO.lst (r.map V.int))) l2 _) l3 _) l4 _) m1 _) m2 _) m3 _) m4 _) tt _ = H4 at t5 ⊢
    have hL4 : SqL K H4 l4 ((r ++ List.replicate q.length (0 : Int)).map V.int) := by
      rw [← hH4]; exact SqL.of (old (old (old (old (old upd_same g1) g2) g3) g4) htt)
    have hM4 : SqL K H4 m4 ((q ++ List.replicate r.length (0 : Int)).map V.int) := by
      rw [← hH4]; exact SqL.of (old upd_same htt)
    clear hH4
    have hlen : ((r ++ List.replicate q.length (0 : Int)).map V.int).length = r.length + q.length := by simp
    refine ⟨_, rfl, l4, _, rfl, .inl hL4, _, rfl, by rw [hlen]; omega, by rw [hlen]; omega, fun D hD => ?_⟩
    rw [hlen, Int.toNat_natCast]
    refine lc_it (walk_range (lo := 0) (n := r.length + q.length)) (fun i H' => Same H4 H' ∧ H' D = some (.lst (((mulR r q).take i).map V.int))) ⟨sNew (Same.refl H4) hD, upd_same⟩ (fun _ _ _ _ => trivial) ?_ ?_
    · rintro i x _ H' hi ⟨u1, w1⟩ ⟨rfl, rfl⟩
      have hi' : ((0 : Int) + (i : Nat)) = ((i : Nat) : Int) := by omega
      refine ⟨rfl, _, rfl, _, _, rfl, rfl, _, rfl, by omega, by omega, fun D2 hD2 => ?_⟩
      have hn2 : ((0 : Int) + (i : Nat) + 1).toNat = i + 1 := by omega
      rw [hn2]
      refine lc_it (walk_range (lo := 0) (n := i + 1)) (fun j H'' => Same H' H'' ∧ H'' D2 = some (.lst ((((List.range (i + 1)).map fun low => r.getD low 0 * q.getD (i - low) 0).take j).map V.int))) ⟨sNew (Same.refl H') hD2, upd_same⟩ (fun _ _ _ _ => trivial) ?_ ?_
      · rintro j x _ H'' hj ⟨u2, w2⟩ ⟨rfl, rfl⟩
        refine ⟨rfl, _, rfl, _, rfl, l4, _, _, _, rfl, rfl, (Same.trans u1 u2).seq hL4, at_of (j := j) (by omega) (by rw [List.getElem?_map, getD_pad (by omega)]; rfl), ?_⟩
        refine ⟨_, rfl, _, rfl, _, rfl, _, _, rfl, rfl, m4, _, _, _, rfl, rfl, (Same.trans u1 u2).seq hM4, at_of (j := i - j) (by omega) (by rw [List.getElem?_map, getD_pad (by omega)]; rfl), ?_⟩
        refine ⟨_, _, rfl, rfl, wide_mul (a := n + 1) (b := m + 1) (Nat.lt_of_lt_of_le (br.getD j) (pow_mono (by omega))) (Nat.lt_of_lt_of_le (bq.getD _) (pow_mono (by omega))) (by omega) (by omega) (by omega), _, w2, ?_, sPut u2 hD2, ?_⟩
        · simp only [List.length_map, List.length_take, List.length_range]
          exact lt_line (by omega)
        · rw [upd_same]
          congr 2
          refine take_succ_map (f := V.int) ?_
          rw [List.getElem?_map, List.getElem?_range (by omega)]; rfl
      · rintro H'' ⟨u2, w2⟩
        rw [List.take_of_length_le (by simp)] at w2
        refine ⟨D2, _, rfl, SqL.of w2, _, u2 _ _ w1, ?_, sPut (Same.trans u1 u2) hD, ?_⟩
        · simp only [List.length_map, List.length_take, len_mulR]
          exact lt_line (by omega)
        · rw [upd_same]
          congr 2
          refine take_succ_map (f := V.int) ?_
          unfold mulR conv
          rw [List.getElem?_map, List.getElem?_range (by omega)]; rfl
    · rintro H' ⟨u1, w1⟩
      refine k H' D (Same.trans t5 u1) (t5.free hD) ?_
      rw [w1, List.take_of_length_le (by rw [len_mulR]; exact Nat.le_refl _)]
end
end S75

namespace S75
open PySem L2 SR
/-! ### data -/
def dRow (r : List Int) : PyData := .list (r.map .int)
def dTup (r : List Int) : PyData := .tuple (r.map .int)
theorem lay_ints (r : List Int) : PyData.canLayAll0 (r.map .int) = true := by
  induction r with
  | nil => rfl
  | cons a r ih => show (true && PyData.canLayAll0 (r.map .int)) = true; rw [ih]; rfl
theorem depth_ints (r : List Int) : PyData.depthAll (r.map .int) = 0 := by
  induction r with
  | nil => rfl
  | cons a r ih => show max 0 (PyData.depthAll (r.map .int)) = 0; rw [ih]; rfl
theorem sh_row (r : List Int) : SeqAt.shaped (dRow r) = true := by
  show (PyData.canLayAll0 (r.map .int) && decide (PyData.depthAll (r.map .int) + 1 ≤ 64)) = true
  rw [lay_ints, depth_ints]; rfl
theorem sh_tup (r : List Int) : SeqAt.shaped (dTup r) = true := by
  show (PyData.canLayAll0 (r.map .int) && decide (PyData.depthAll (r.map .int) + 1 ≤ 64)) = true
  rw [lay_ints, depth_ints]; rfl
theorem dp_ints {K : PySem.W.Frag} {H : Hp} : ∀ r : List Int, DpAll K H (r.map V.int) (r.map .int)
  | [] => .nil
  | a :: r => .cons (.int a) (dp_ints r)
theorem dp_row {K : PySem.W.Frag} {H : Hp} {a : Addr} {r : List Int} (h : SqL K H a (r.map V.int)) : Dp K H (.ref a) (dRow r) := .lst h (dp_ints r)
theorem dp_tup {K : PySem.W.Frag} {H : Hp} {a : Addr} {r : List Int} (h : SqT K H a (r.map V.int)) : Dp K H (.ref a) (dTup r) := .tup h (dp_ints r)
theorem row_nil (r : List Int) : PyData.eqv (dRow r) (dRow []) = decide (r = []) := by
  cases r with
  | nil => rfl
  | cons a r => rfl
theorem tup_nil (r : List Int) : PyData.eqv (dTup r) (dTup []) = decide (r = []) := by
  cases r with
  | nil => rfl
  | cons a r => rfl
/-! ### instances -/
abbrev oRow : Str := "own_row"
def PolyAt (C : Addr) (H : Hp) (p : Addr) (r : List Int) : Prop := ∃ dx t, H p = some (.ins C dx [(oRow, .ref t)]) ∧ H t = some (.tup (r.map V.int))
theorem PolyAt.same {C : Addr} {H H' : Hp} {p : Addr} {r : List Int} (s : Same H H') (h : PolyAt C H p r) : PolyAt C H' p r := by
  obtain ⟨dx, t, h1, h2⟩ := h
  exact ⟨dx, t, s _ _ h1, s _ _ h2⟩
/-- all but the object at x is as it was -/
def SameX (x : Addr) (H H' : Hp) : Prop := ∀ b o, b ≠ x → H b = some o → H' b = some o
structure Pc (K : PySem.W.Frag) (mg : Str → Option Value) (C : Addr) : Prop where
  cl : Cls K C
  nR : NoAttr K C oRow
  mgC : mg "Polynomial" = some (.ref C)
  ic : PySem.W.findIn K (.ref C) "__class__" = some (some (.builtin "object.__class__"))
  gt : PySem.W.specialIn K (.builtin "object.__class__") "__get__" = some (some (.builtin "getset_descriptor.__get__"))
  tk : PySem.W.takesIn K (.builtin "object.__class__") = some true
  mo : PySem.W.mroIn K C (.type "object") = some true
  sf : PySem.W.selfFirst K C = true
theorem atI_lastV (xs : List V) (v : V) : atI (xs ++ [v]) (-1) = some v := atI_last xs v
section
variable {P : Program} {w : World} {K : PySem.W.Frag} {mg : Str → Option Value} {base : Heap}
/-! ### Polynomial.__init__ -/
def spPInit (K : PySem.W.Frag) (C : Addr) : Sp := fun vs H Q _ => ∃ (x dx t : Addr) (r : List Int), vs = [.ref x, .ref t] ∧ H x = some (.ins C dx []) ∧ SqT K H t (r.map V.int) ∧ r.length ≤ 1000 ∧
  ∀ (H' : Hp) (c : List Int) (k : Nat) (u : Addr), r = c ++ List.replicate k 0 → Canon c → SameX x H H' → H' x = some (.ins C dx [(oRow, .ref u)]) → H' u = some (.tup (c.map V.int)) → Q .non H'
abbrev nPInit : List Str := ["self", "coefficients", "one", "found"]
theorem scPInit : FnScope nPInit (([("self" : Str)] : List Str) ++ [("coefficients" : Str)]) (defScope sPInit) := ⟨rfl, rfl, rfl, by decide +kernel, rfl, by decide +kernel, by decide +kernel⟩
theorem ok_pinit {f C : Addr} {fd : FuncData} (F : Fun K "__init__" "Polynomial.__init__" sPInit f fd) (T : Bn mg) (N : Pc K mg C) (DI : Df P w K mg base "is_integer" ["value"] 1 spIsInt) :
    FnR P w K mg base CX0 2 f (fun vs H Q E => ∃ ws rest, vs = ws ++ rest ∧ ws.length = (["self"] : List Str).length ∧ rest.length ≤ sizeLine ∧ ∀ p, H p = Option.none → spPInit K C (ws ++ [V.ref p]) (upd H p (.tup rest)) Q E) := by
  obtain ⟨oc, od, kV, doc, pm, an, cdv, ct, osl, rfl, lk, hcd⟩ := F.ex
  refine StX.fn_star (ps := ["self"]) (pv := "coefficients") lk hcd scPInit StX.cxUp_none (fun us rest hl => ?_) (fun A outer s H vs Q E hr h => ?_)
  · match us, rest, hl with
    | [u], [], _ => rfl
    | [u], a :: b, _ => rfl
  · obtain ⟨x, dx, t, r, rfl, hx, ht, hlen, k⟩ := h
    refine ⟨_, PSs.nox (pss_cons (ps_for PassesOwn.never rfl (pi_tup (pv 1)) (pg_name (i := 2) scPInit.nd rfl (Or.inl rfl)) (pss_one (ps_if (pt_not (pt_val (pe_df DI hr (by rfl) (pa_cons (pv 2) pa_nil)))) (pss_one ps_never) pss_nil)))
      (pss_cons (ps_set (i := 3) scPInit.nd rfl (Or.inl rfl) (pe_callTy call_list_of (by rfl) T.list (by decide +kernel) (pa_cons (pv 1) pa_nil)))
      (pss_cons (ps_while PassesOwn.never (PW.pt (pw_and (pt_cmpR (op_neD hr.units) (pv 3) (pe_lst pa_nil) (nomark _)) (pw_and1 (pt_cmpR op_eq (pe_ix ix_list (pv 3) (pe_un un_neg pe_int) (fun _ _ => rfl)) pe_int (nomark _)))))
        (pss_one (ps_expr (pe_bm0 PySem.F.plainAttrs_list PySem.F.slot_list_pop PySem.F.type_list_pop mt_pop (pv 3)))))
      (pss_one (ps_fld (pv 0) (pe_callTy call_tuple_of (by rfl) T.tuple (by decide +kernel) (pa_cons (pv 3) pa_nil)) rfl))))), ?_⟩
    refine ⟨_, rfl, t, rfl, ⟨_, ht⟩, for_it (walk_tup (K := K) (a := t) (xs := r.map V.int)) (fun i σ H' => H = H' ∧ ∃ v, σ = [some (.ref x), some (.ref t), v, none]) ⟨rfl, none, rfl⟩ (fun i σ H' _ h => h.1 ▸ ht) ?_ ?_⟩
    · rintro i y σ _ _ hi ⟨rfl, v, rfl⟩ ⟨rfl, hy⟩
      obtain ⟨z, hz, rfl⟩ := map_get hy
      refine ⟨_, rfl, z, rfl, true, rfl, ?_⟩
      exact ⟨rfl, _, rfl⟩
    · rintro σ _ ⟨rfl, v, rfl⟩
      refine ⟨_, rfl, t, _, rfl, .inr ht, fun l hl => ?_⟩
      have hxl : x ≠ l := ne_of_none hx hl
      refine ⟨fun m σ H' => ∃ c : List Int, m = c.length ∧ σ = [some (.ref x), some (.ref t), v, some (.ref l)] ∧ (∃ k, r = c ++ List.replicate k 0) ∧ Same H H' ∧ H' l = some (.lst (c.map V.int)), ⟨r.length, r, rfl, rfl, ⟨0, by simp⟩, sNew (Same.refl H) hl, upd_same⟩, ?_⟩
      rintro m σ H1 ⟨c, rfl, rfl, ⟨k0, hk0⟩, s1, h1⟩
      refine ⟨_, rfl, Nat.zero_le _, fun l2 hl2 => ?_⟩
      have s2 := sNew (o := .lst []) s1 hl2
      refine ⟨dRow c, dRow [], dp_row (SqL.of (old h1 hl2)), dp_row (r := []) (SqL.of upd_same), sh_row _, sh_row _, _, rfl, ?_⟩
      rw [row_nil]
      by_cases hc : c = []
      · subst hc
        refine iteF ?_
        refine ⟨_, rfl, l, _, rfl, .inl ⟨SqL.of (old h1 hl2), fun u hu => ?_⟩⟩
        refine ⟨_, rfl, x, C, dx, [], rfl, old (s2 _ _ hx) hu, N.cl, N.nR, (by show 0 < 1000; decide), ?_⟩
        refine k _ [] k0 u hk0 (by simp [Canon]) (fun b o hb e => ?_) upd_same ?_
        · rw [upd_ne hb]; exact old (s2 _ _ e) hu
        · rw [upd_ne (fun (e : u = x) => ?_), upd_same]
          rw [e, s2 _ _ hx] at hu; cases hu
      · rw [decide_eq_false hc]
        refine iteT ?_
        obtain ⟨d, z, rfl⟩ : ∃ d z, c = d ++ [z] := ⟨c.dropLast, c.getLast hc, (List.dropLast_concat_getLast hc).symm⟩
        have h1' : H1 l = some (.lst (d.map V.int ++ [V.int z])) := by rw [h1]; simp
        refine ⟨_, rfl, _, rfl, l, _, _, _, rfl, rfl, SqL.of (old h1' hl2), atI_lastV _ _, rfl, _, rfl, ?_⟩
        by_cases hz : z = 0
        · subst hz
          rw [decide_eq_true rfl]
          refine iteT ?_
          refine ⟨fun σ' H' => ∃ c : List Int, c.length < (d ++ [(0 : Int)]).length ∧ σ' = [some (.ref x), some (.ref t), v, some (.ref l)] ∧ (∃ k, r = c ++ List.replicate k 0) ∧ Same H H' ∧ H' l = some (.lst (c.map V.int)), fun σ' H' ⟨c, h2, h3, h4, h5, h6⟩ => ⟨_, h2, c, rfl, h3, h4, h5, h6⟩, ?_⟩
          refine ⟨_, rfl, .inl ⟨rfl, _, SqL.of (old h1' hl2)⟩, l, _, V.int 0, rfl, rfl, old h1' hl2, (by simp), ?_⟩
          refine ⟨d, by simp, rfl, ⟨k0 + 1, ?_⟩, sPut s2 hl, ?_⟩
          · rw [hk0, List.append_assoc, List.replicate_succ]; rfl
          · rw [upd_same, List.dropLast_concat]
        · rw [decide_eq_false (fun e => hz (V.int.inj e))]
          refine iteF ?_
          refine ⟨_, rfl, l, _, rfl, .inl ⟨SqL.of ((old h1 hl2)), fun u hu => ?_⟩⟩
          refine ⟨_, rfl, x, C, dx, [], rfl, old (s2 _ _ hx) hu, N.cl, N.nR, (by show 0 < 1000; decide), ?_⟩
          refine k _ (d ++ [z]) k0 u hk0 (by simp [Canon, hz]) (fun b o hb e => ?_) upd_same ?_
          · rw [upd_ne hb]; exact old (s2 _ _ e) hu
          · rw [upd_ne (fun (e : u = x) => ?_), upd_same]
            rw [e, s2 _ _ hx] at hu; cases hu
end
end S75

namespace S75
open PySem L2 SR
theorem sgn_int (x : Int) : ((if decide (x > 0) = true then 1 else 0) - (if decide (x < 0) = true then 1 else 0) : Int) = sgn x := by
  unfold sgn
  by_cases h : x > 0
  · have h2 : ¬ x < 0 := by omega
    simp [h, h2]
  · by_cases h2 : x < 0
    · simp [h, h2]
    · simp [h, h2]
section
variable {P : Program} {w : World} {K : PySem.W.Frag} {mg : Str → Option Value} {base : Heap}
/-! ### a polynomial is made -/
def spStar (K : PySem.W.Frag) (C : Addr) : Sp := fun vs H Q E => ∃ ws rest, vs = ws ++ rest ∧ ws.length = (["self"] : List Str).length ∧ rest.length ≤ sizeLine ∧ ∀ p, H p = Option.none → spPInit K C (ws ++ [V.ref p]) (upd H p (.tup rest)) Q E
def Made (C : Addr) (H1 : Hp) (r : List Int) (Q : VK) : Prop := r.length ≤ 1000 ∧ ∀ (H' : Hp) (p : Addr) (c : List Int) (k : Nat), Same H1 H' → H1 p = none → PolyAt C H' p c → r = c ++ List.replicate k 0 → Canon c → Q (.ref p) H'
theorem made_sp {C : Addr} {H1 : Hp} {r : List Int} {Q : VK} {E : XK} (h : Made C H1 r Q) (x dx : Addr) (hx : H1 x = none) (hdx : H1 dx = none) (ne : dx ≠ x) :
    spStar K C (V.ref x :: r.map V.int) (upd (upd H1 dx (.own x)) x (.ins C dx [])) (fun v H2 => v = .non ∧ Q (.ref x) H2) E := by
  obtain ⟨hl, k⟩ := h
  refine ⟨[.ref x], r.map V.int, rfl, rfl, le_line (by rw [List.length_map]; omega), fun p hp => ?_⟩
  have npx : p ≠ x := fun e => by rw [e, upd_same] at hp; cases hp
  have npd : p ≠ dx := fun e => by rw [e, upd_ne ne, upd_same] at hp; cases hp
  have hp0 : H1 p = none := by rw [upd_ne npx, upd_ne npd] at hp; exact hp
  refine ⟨x, dx, p, r, rfl, ?_, .inl (.inl upd_same), hl, fun H' c k' u hr hc sx hx' hu => ⟨rfl, ?_⟩⟩
  · rw [upd_ne npx.symm, upd_same]
  · refine k H' x c k' (fun b o e => ?_) hx ⟨dx, u, hx', hu⟩ hr hc
    have nbx : b ≠ x := ne_of_none e hx
    have nbd : b ≠ dx := ne_of_none e hdx
    have nbp : b ≠ p := ne_of_none e hp0
    exact sx b o nbx (by rw [upd_ne nbp, upd_ne nbx, upd_ne nbd]; exact e)
/-- Polynomial(e, ..) -/
def tPoly (C : Addr) (t : TA) : TE := fun σ H Q => t σ H fun vs H1 => ∃ r : List Int, vs = r.map V.int ∧ Made C H1 r Q
/-- Polynomial(*e) -/
def tPolyS (K : PySem.W.Frag) (C : Addr) (te : TE) : TE := fun σ H Q => te σ H fun y H1 => ∃ a r, y = V.ref a ∧ SqL K H1 a (r.map V.int) ∧ Made C H1 r Q
structure PMk (P : Program) (w : World) (K : PySem.W.Frag) (mg : Str → Option Value) (base : Heap) (C : Addr) : Prop where
  pc : Pc K mg C
  ex : ∃ f, Mk K C f ∧ FnR P w K mg base CX0 2 f (spStar K C)
section
variable {X : Cx} {C : Addr} {e : Expr} {es : List Expr} {t : TA} {te : TE} {p pos sp_ : Pos}
theorem mono_TA {X : Cx} {es : List Expr} {t : TA} (h : PA X es t) : PA X es t := h
theorem pe_poly0 (M : PMk X.prog X.w X.K X.mg X.base C) (hr : Room 3 X.A) (hg : Gl X "Polynomial") : PE X (.Call (.Name "Polynomial" p) [] [] pos) (fun _ H Q => Made C H [] Q) := by
  obtain ⟨f, mk, F⟩ := M.ex
  refine PE.imp (pe_makeR0 (E := E0) mk F hr hg M.pc.mgC pass0) fun σ H Q h => ?_
  exact fun x dx hx hdx ne => made_sp (r := []) h x dx hx hdx ne
theorem pe_polyS (M : PMk X.prog X.w X.K X.mg X.base C) (hr : Room 3 X.A) (hg : Gl X "Polynomial") (he : PE X e te) (hm : ∀ σ H Q Q', (∀ y H1, Q y H1 → Q' y H1) → te σ H Q → te σ H Q')
    (hst : starEach [.Starred e sp_] X.env = [(true, eval e X.env)] := by rfl) : PE X (.Call (.Name "Polynomial" p) [.Starred e sp_] [] pos) (tPolyS X.K C te) := by
  obtain ⟨f, mk, F⟩ := M.ex
  refine PE.imp (pe_makeS (E := E0) mk F hr hg M.pc.mgC pass0 he (by decide) hst) fun σ H Q h => ?_
  refine hm σ H _ _ (fun y H1 q => ?_) h
  obtain ⟨a, r, rfl, hr, hq⟩ := q
  exact ⟨a, _, rfl, .inr hr, fun x dx hx hdx ne => made_sp hq x dx hx hdx ne⟩
theorem pe_poly (M : PMk X.prog X.w X.K X.mg X.base C) (hr : Room 3 X.A) (hg : Gl X "Polynomial") (ha : PA X (e :: es) t) (hm : ∀ σ H Q Q', (∀ y H1, Q y H1 → Q' y H1) → t σ H Q → t σ H Q')
    (he : starEach (e :: es) X.env = (false, eval e X.env) :: starEach es X.env := by rfl) (hpl : (backTo pos (starEach es X.env)).any (·.1) = false := by rfl) : PE X (.Call (.Name "Polynomial" p) (e :: es) [] pos) (tPoly C t) := by
  obtain ⟨f, mk, F⟩ := M.ex
  refine PE.imp (StX.pe_makeR (E := E0) mk F hr hg M.pc.mgC pass0 ha (by decide) he hpl) fun σ H Q h => ?_
  refine hm σ H _ _ (fun y H1 q => ?_) h
  obtain ⟨r, rfl, hq⟩ := q
  exact fun x dx hx hdx ne => made_sp hq x dx hx hdx ne
end
/-! ### its small methods -/
def spCoef (C : Addr) : Sp := fun vs H Q _ => ∃ (p : Addr) (r : List Int), vs = [.ref p] ∧ PolyAt C H p r ∧ ∀ t, H t = some (.tup (r.map V.int)) → Q (.ref t) H
theorem scCoef : FnScope ["self"] ["self"] (defScope sPCoef) := ⟨rfl, rfl, rfl, by decide +kernel, rfl, by decide +kernel, by decide +kernel⟩
theorem ok_coef {f C : Addr} {fd : FuncData} (F : Fun K "coefficients" "Polynomial.coefficients" sPCoef f fd) (N : Pc K mg C) : FnOk P w K mg base CX0 1 f fd ["self"] (spCoef C) := by
  refine F.ok scCoef (fun vs H Q E h => ?_) (fun cdv A outer s H vs Q E hr h => ?_)
  · obtain ⟨p, r, rfl, _⟩ := h
    rfl
  · obtain ⟨p, r, rfl, ⟨dx, t, h1, h2⟩, q⟩ := h
    refine ⟨_, pss_one (ps_ret (pe_fld (pv 0) rfl)), ?_⟩
    exact ⟨_, rfl, p, C, dx, _, _, rfl, h1, N.cl, N.nR, rfl, q t h2⟩
def spDeg (C : Addr) : Sp := fun vs H Q _ => ∃ (p : Addr) (r : List Int), vs = [.ref p] ∧ PolyAt C H p r ∧ Q (.int ((r.length : Int) - 1)) H
theorem scDeg : FnScope ["self"] ["self"] (defScope sPDeg) := ⟨rfl, rfl, rfl, by decide +kernel, rfl, by decide +kernel, by decide +kernel⟩
theorem ok_deg {f C : Addr} {fd : FuncData} (F : Fun K "degree" "Polynomial.degree" sPDeg f fd) (T : Bn mg) (N : Pc K mg C) : FnOk P w K mg base CX0 1 f fd ["self"] (spDeg C) := by
  refine F.ok scDeg (fun vs H Q E h => ?_) (fun cdv A outer s H vs Q E hr h => ?_)
  · obtain ⟨p, r, rfl, _⟩ := h
    rfl
  · obtain ⟨p, r, rfl, ⟨dx, t, h1, h2⟩, q⟩ := h
    refine ⟨_, pss_one (ps_ret (pe_op op_sub (pe_callB call_len_seq (by rfl) T.len PySem.boot_len (pa_cons (pe_fld (pv 0) rfl) pa_nil)) pe_int)), ?_⟩
    refine ⟨_, rfl, p, C, dx, _, _, rfl, h1, N.cl, N.nR, rfl, t, _, rfl, .inr (.inl (.inl h2)), _, _, rfl, rfl, ?_⟩
    rw [List.length_map]
    exact q
/-! ### at -/
def spAt (C : Addr) : Sp := fun vs H Q _ => ∃ (p : Addr) (r : List Int) (d : Int) (n m : Nat), vs = [.ref p, .int d] ∧ PolyAt C H p r ∧ Bd n r ∧ d.natAbs < 2 ^ m ∧ r.length ≤ 20 ∧ n ≤ 2000 ∧ m ≤ 2000 ∧ ∀ H', Same H H' → Q (.int (ev r d)) H'
abbrev nAt : List Str := ["self", "d", "found", "one"]
theorem scAt : FnScope nAt ["self", "d"] (defScope sPAt) := ⟨rfl, rfl, rfl, by decide +kernel, rfl, by decide +kernel, by decide +kernel⟩
theorem ev_drop {r : List Int} {i : Nat} {a x : Int} (h : r.reverse[i]? = some a) : ev (r.drop (r.length - (i + 1))) x = ev (r.drop (r.length - i)) x * x + a := by
  have hi : i < r.length := by
    have := (List.getElem?_eq_some_iff.mp h).1
    simpa using this
  rw [List.getElem?_reverse hi] at h
  have e : r.length - (i + 1) = r.length - 1 - i := by omega
  rw [e]
  obtain ⟨hj, e2⟩ := List.getElem?_eq_some_iff.mp h
  rw [List.drop_eq_getElem_cons hj, e2]
  show a + x * ev (r.drop (r.length - 1 - i + 1)) x = _
  rw [show r.length - 1 - i + 1 = r.length - i by omega, Int.mul_comm x, Int.add_comm]
theorem ok_at {f C : Addr} {fd : FuncData} (F : Fun K "at" "Polynomial.at" sPAt f fd) (T : Bn mg) (N : Pc K mg C) (DI : Df P w K mg base "is_integer" ["value"] 1 spIsInt) : FnOk P w K mg base CX0 2 f fd ["self", "d"] (spAt C) := by
  refine F.ok scAt (fun vs H Q E h => ?_) (fun cdv A outer s H vs Q E hr h => ?_)
  · obtain ⟨p, r, d, n, m, rfl, _⟩ := h
    rfl
  · obtain ⟨p, r, d, n, m, rfl, ⟨dx, t, h1, h2⟩, hn, hm, hl, ln, lm, q⟩ := h
    refine ⟨_, pss_cons (ps_if (pt_not (pt_val (pe_df DI hr (by rfl) (pa_cons (pv 1) pa_nil)))) (pss_one ps_never) pss_nil)
      (pss_cons (ps_set (i := 2) scAt.nd rfl (Or.inl rfl) pe_int)
      (pss_cons (ps_for PassesOwn.never rfl (pi_tup (pe_revT (pe_fld (pv 0) rfl))) (pg_name (i := 3) scAt.nd rfl (Or.inl rfl)) (pss_one (ps_set (i := 2) scAt.nd rfl (Or.inl rfl) (pe_op op_add (pe_op op_mulW (pv 2) (pv 1)) (pv 3)))))
      (pss_one (ps_ret (pv 2))))), ?_⟩
    refine ⟨_, rfl, d, rfl, true, rfl, ?_⟩
    refine ⟨_, rfl, p, C, dx, _, _, rfl, h1, N.cl, N.nR, rfl, t, _, rfl, .inl (.inl h2), fun u hu => ?_⟩
    have s1 := sNew (o := .tup (r.map V.int).reverse) (Same.refl H) hu
    refine ⟨u, rfl, ⟨_, .inl (.inl upd_same)⟩, for_it (walk_tup (K := K) (a := u) (xs := (r.map V.int).reverse)) (fun i σ H' => upd H u (.tup (r.map V.int).reverse) = H' ∧ ∃ v, σ = [some (.ref p), some (.int d), some (.int (ev (r.drop (r.length - i)) d)), v]) ⟨rfl, none, ?_⟩ (fun i σ H' _ h => h.1 ▸ .inl (.inl upd_same)) ?_ ?_⟩
    · rw [Nat.sub_zero, List.drop_length]; rfl
    · rintro i y σ _ _ hi ⟨rfl, v, rfl⟩ ⟨rfl, hy⟩
      rw [← List.map_reverse] at hy
      obtain ⟨z, hz, rfl⟩ := map_get hy
      have hb : Bd n (r.drop (r.length - i)) := fun a ha => hn a (List.mem_of_mem_drop ha)
      have hbd := ev_bd hm hb
      have hi' : i < r.length := by simpa using hi
      refine ⟨_, rfl, _, rfl, _, _, rfl, rfl, wide_mul (a := 50000) (b := 3000) (Nat.lt_of_lt_of_le hbd (pow_mono ?_)) (Nat.lt_of_lt_of_le hm (pow_mono (by omega))) (by omega) (by omega) (by omega), _, rfl, _, _, rfl, rfl, ?_⟩
      · rw [List.length_drop]
        have h3 : (r.length - (r.length - i)) * (m + 1) ≤ 20 * 2001 := Nat.mul_le_mul (by omega) (by omega)
        omega
      · refine ⟨rfl, some (.int z), ?_⟩
        rw [ev_drop hz]; rfl
    · rintro σ _ ⟨rfl, v, rfl⟩
      refine ⟨_, rfl, ?_⟩
      have e : r.length - (r.map V.int).reverse.length = 0 := by simp
      rw [e, List.drop_zero]
      exact q _ s1
end
end S75

namespace S75
open PySem L2 SR
section
variable {P : Program} {w : World} {K : PySem.W.Frag} {mg : Str → Option Value} {base : Heap}
structure PCl (P : Program) (w : World) (K : PySem.W.Frag) (mg : Str → Option Value) (base : Heap) (C : Addr) : Prop where
  pm : PMk P w K mg base C
  coef : ∃ f fd, Meth K C "coefficients" f ∧ Binds K fd ["self"] [] ∧ FnOk P w K mg base CX0 1 f fd ["self"] (spCoef C)
  at_ : ∃ f fd, Meth K C "at" f ∧ Binds K fd ["self", "d"] [] ∧ FnOk P w K mg base CX0 2 f fd ["self", "d"] (spAt C)
  deg : ∃ p g fd, PropOf K C "degree" p g ∧ Binds K fd ["self"] [] ∧ FnOk P w K mg base CX0 1 g fd ["self"] (spDeg C)
/-! ### row_of -/
theorem scRowOf : FnScope ["value"] ["value"] (defScope sRowOf) := ⟨rfl, rfl, rfl, by decide +kernel, rfl, by decide +kernel, by decide +kernel⟩
theorem kit_self {K : PySem.W.Frag} {C : Addr} : PySem.W.kitOne K (.ref C) (.ref C) = some true := by
  unfold PySem.W.kitOne
  rw [if_pos (by simp)]
theorem ok_rowOf {f C : Addr} {fd : FuncData} (F : Fun K "row_of" "row_of" sRowOf f fd) (T : Bn mg) (N : PCl P w K mg base C) : FnOk P w K mg base CX0 2 f fd ["value"] (spCoef C) := by
  refine F.ok scRowOf (fun vs H Q E h => ?_) (fun cdv A outer s H vs Q E hr h => ?_)
  · obtain ⟨p, r, rfl, _⟩ := h
    rfl
  · obtain ⟨p, r, rfl, hp, q⟩ := h
    obtain ⟨g, gd, gm, gb, G⟩ := N.coef
    obtain ⟨dx, t, h1, h2⟩ := id hp
    refine ⟨_, pss_cons (ps_if (pt_not (pt_val (pe_callB call_isi (by rfl) T.isi (by decide +kernel) (pa_cons (pv 0) (pa_cons (pe_glob (v := .ref C) (by rfl) N.pm.pc.mgC rfl) pa_nil))))) (pss_one ps_never) pss_nil)
      (pss_one (ps_ret (pe_meth0 (pv 0) N.pm.pc.cl gm G hr gb .nil pass0))), ?_⟩
    refine ⟨_, rfl, _, _, _, _, true, rfl, .own C, .base (.ins h1 N.pm.pc.cl N.pm.pc.ic N.pm.pc.gt N.pm.pc.tk N.pm.pc.mo), kit_self, true, rfl, ?_⟩
    exact ⟨_, rfl, p, dx, _, rfl, h1, rfl, p, r, rfl, hp, q⟩
/-! ### sign_at -/
def spSignAt (C : Addr) : Sp := fun vs H Q _ => ∃ (p : Addr) (r : List Int) (d : Int) (n m : Nat), vs = [.ref p, .int d] ∧ PolyAt C H p r ∧ Bd n r ∧ d.natAbs < 2 ^ m ∧ r.length ≤ 20 ∧ n ≤ 2000 ∧ m ≤ 2000 ∧ ∀ H', Same H H' → Q (.int (sgn (ev r d))) H'
abbrev nSignAt : List Str := ["polynomial", "d", "found"]
theorem scSignAt : FnScope nSignAt ["polynomial", "d"] (defScope sSignAt) := ⟨rfl, rfl, rfl, by decide +kernel, rfl, by decide +kernel, by decide +kernel⟩
theorem ok_signAt {f C : Addr} {fd : FuncData} (F : Fun K "sign_at" "sign_at" sSignAt f fd) (T : Bn mg) (N : PCl P w K mg base C) : FnOk P w K mg base CX0 3 f fd ["polynomial", "d"] (spSignAt C) := by
  refine F.ok scSignAt (fun vs H Q E h => ?_) (fun cdv A outer s H vs Q E hr h => ?_)
  · obtain ⟨p, r, d, n, m, rfl, _⟩ := h
    rfl
  · obtain ⟨p, r, d, n, m, rfl, hp, hn, hm, hl, ln, lm, q⟩ := h
    obtain ⟨g, gd, gm, gb, G⟩ := N.at_
    obtain ⟨dx, t, h1, h2⟩ := id hp
    refine ⟨_, pss_cons (ps_set (i := 2) scSignAt.nd rfl (Or.inl rfl) (pe_meth (pv 0) N.pm.pc.cl gm G hr gb .nil pass0 (pa_cons (pv 1) pa_nil)))
      (pss_one (ps_ret (pe_op op_sub (pe_callTy call_int1 (by rfl) T.int (by decide +kernel) (pa_cons (pe_cmpR op_gt (pv 2) pe_int (nomark _)) pa_nil)) (pe_callTy call_int1 (by rfl) T.int (by decide +kernel) (pa_cons (pe_cmpR op_lt (pv 2) pe_int (nomark _)) pa_nil))))), ?_⟩
    refine ⟨_, rfl, p, dx, _, rfl, h1, rfl, _, rfl, p, r, d, n, m, rfl, hp, hn, hm, hl, ln, lm, fun H' s' => ?_⟩
    refine ⟨_, rfl, _, _, rfl, rfl, .inr ⟨_, rfl, ?_⟩⟩
    refine ⟨_, rfl, _, _, rfl, rfl, .inr ⟨_, rfl, ?_⟩⟩
    refine ⟨_, _, rfl, rfl, ?_⟩
    have e := sgn_int (ev r d)
    have h3 := q H' s'
    rw [← e] at h3
    exact h3
/-! ### the operators -/
def spBin (C : Addr) (g : List Int → List Int → List Int) (pre : List Int → List Int → Prop) : Sp := fun vs H Q _ => ∃ (a b : Addr) (r q : List Int), vs = [.ref a, .ref b] ∧ PolyAt C H a r ∧ PolyAt C H b q ∧ r.length ≤ 100 ∧ q.length ≤ 100 ∧ pre r q ∧
  ∀ (H' : Hp) (p : Addr) (c : List Int) (k : Nat), Same H H' → H p = none → PolyAt C H' p c → g r q = c ++ List.replicate k 0 → Canon c → Q (.ref p) H'
def preM (r q : List Int) : Prop := ∃ n m, Bd n r ∧ Bd m q ∧ n ≤ 2000 ∧ m ≤ 2000
abbrev nOp : List Str := ["self", "other", "found"]
theorem scAdd : FnScope nOp ["self", "other"] (defScope sPAdd) := ⟨rfl, rfl, rfl, by decide +kernel, rfl, by decide +kernel, by decide +kernel⟩
theorem scSub : FnScope nOp ["self", "other"] (defScope sPSub) := ⟨rfl, rfl, rfl, by decide +kernel, rfl, by decide +kernel, by decide +kernel⟩
theorem scMul : FnScope nOp ["self", "other"] (defScope sPMul) := ⟨rfl, rfl, rfl, by decide +kernel, rfl, by decide +kernel, by decide +kernel⟩
theorem tVar_mono {i : Nat} (σ : St) (H : Hp) (Q Q' : VK) (h : ∀ y H1, Q y H1 → Q' y H1) (q : tVar i σ H Q) : tVar i σ H Q' := by
  obtain ⟨v, e, q⟩ := q
  exact ⟨v, e, h _ _ q⟩
theorem ok_add {f C : Addr} {fd : FuncData} (F : Fun K "__add__" "Polynomial.__add__" sPAdd f fd) (T : Bn mg) (N : PMk P w K mg base C) (DA : Df P w K mg base "added_rows" ["one", "other"] 1 (spAdded K)) (DR : Df P w K mg base "row_of" ["value"] 2 (spCoef C)) :
    FnOk P w K mg base CX0 4 f fd ["self", "other"] (spBin C addR fun _ _ => True) := by
  refine F.ok scAdd (fun vs H Q E h => ?_) (fun cdv A outer s H vs Q E hr h => ?_)
  · obtain ⟨a, b, r, q, rfl, _⟩ := h
    rfl
  · obtain ⟨a, b, r, q, rfl, ha, hb, lr, lq, _, k⟩ := h
    obtain ⟨dx, t, h1, h2⟩ := id ha
    refine ⟨_, pss_cons (ps_set (i := 2) scAdd.nd rfl (Or.inl rfl) (pe_df DA (hr.mono (by decide)) (by rfl) (pa_cons (pe_fld (pv 0) rfl) (pa_cons (pe_df DR (hr.mono (by decide)) (by rfl) (pa_cons (pv 1) pa_nil)) pa_nil))))
      (pss_one (ps_ret (pe_polyS N hr (by rfl) (pv 2) tVar_mono))), ?_⟩
    refine ⟨_, rfl, a, C, dx, _, _, rfl, h1, N.pc.cl, N.pc.nR, rfl, _, rfl, b, q, rfl, hb, fun u hu => ?_⟩
    refine ⟨t, u, r, q, rfl, .inr (.inl (.inl h2)), .inr (.inl (.inl hu)), lr, lq, fun H' p s' hp hp' => ?_⟩
    refine ⟨_, rfl, p, _, rfl, SqL.of hp', ?_, fun H2 p2 c j s2 hn hc he hcan => ?_⟩
    · rw [len_addR]; omega
    · exact k H2 p2 c j (Same.trans s' s2) (s'.free hn) hc he hcan
theorem ok_sub {f C : Addr} {fd : FuncData} (F : Fun K "__sub__" "Polynomial.__sub__" sPSub f fd) (T : Bn mg) (N : PMk P w K mg base C) (DA : Df P w K mg base "added_rows" ["one", "other"] 1 (spAdded K)) (DR : Df P w K mg base "row_of" ["value"] 2 (spCoef C))
    (DO : Df P w K mg base "opposite_row" ["row"] 1 (spOpp K)) : FnOk P w K mg base CX0 4 f fd ["self", "other"] (spBin C (fun r q => addR r (oppR q)) fun _ _ => True) := by
  refine F.ok scSub (fun vs H Q E h => ?_) (fun cdv A outer s H vs Q E hr h => ?_)
  · obtain ⟨a, b, r, q, rfl, _⟩ := h
    rfl
  · obtain ⟨a, b, r, q, rfl, ha, hb, lr, lq, _, k⟩ := h
    obtain ⟨dx, t, h1, h2⟩ := id ha
    refine ⟨_, pss_cons (ps_set (i := 2) scSub.nd rfl (Or.inl rfl) (pe_df DA (hr.mono (by decide)) (by rfl) (pa_cons (pe_fld (pv 0) rfl) (pa_cons (pe_df DO (hr.mono (by decide)) (by rfl) (pa_cons (pe_df DR (hr.mono (by decide)) (by rfl) (pa_cons (pv 1) pa_nil)) pa_nil)) pa_nil))))
      (pss_one (ps_ret (pe_polyS N hr (by rfl) (pv 2) tVar_mono))), ?_⟩
    refine ⟨_, rfl, a, C, dx, _, _, rfl, h1, N.pc.cl, N.pc.nR, rfl, _, rfl, b, q, rfl, hb, fun u hu => ?_⟩
    refine ⟨u, q, rfl, .inl (.inl hu), by omega, fun H0 o s0 ho ho' => ?_⟩
    refine ⟨t, o, r, oppR q, rfl, .inr (.inl (.inl (s0 _ _ h2))), .inl (SqL.of ho'), lr, by unfold oppR; rw [List.length_map]; exact lq, fun H' p s' hp hp' => ?_⟩
    refine ⟨_, rfl, p, _, rfl, SqL.of hp', ?_, fun H2 p2 c j s2 hn hc he hcan => ?_⟩
    · rw [len_addR]; unfold oppR; rw [List.length_map]; omega
    · exact k H2 p2 c j (Same.trans s0 (Same.trans s' s2)) (s0.free (s'.free hn)) hc he hcan
theorem ok_mul {f C : Addr} {fd : FuncData} (F : Fun K "__mul__" "Polynomial.__mul__" sPMul f fd) (T : Bn mg) (N : PMk P w K mg base C) (DM : Df P w K mg base "multiplied_rows" ["one", "other"] 1 (spMult K)) (DR : Df P w K mg base "row_of" ["value"] 2 (spCoef C)) :
    FnOk P w K mg base CX0 4 f fd ["self", "other"] (spBin C mulR preM) := by
  refine F.ok scMul (fun vs H Q E h => ?_) (fun cdv A outer s H vs Q E hr h => ?_)
  · obtain ⟨a, b, r, q, rfl, _⟩ := h
    rfl
  · obtain ⟨a, b, r, q, rfl, ha, hb, lr, lq, ⟨n, m, bn, bm, ln, lm⟩, k⟩ := h
    obtain ⟨dx, t, h1, h2⟩ := id ha
    refine ⟨_, pss_cons (ps_set (i := 2) scMul.nd rfl (Or.inl rfl) (pe_df DM (hr.mono (by decide)) (by rfl) (pa_cons (pe_fld (pv 0) rfl) (pa_cons (pe_df DR (hr.mono (by decide)) (by rfl) (pa_cons (pv 1) pa_nil)) pa_nil))))
      (pss_one (ps_ret (pe_polyS N hr (by rfl) (pv 2) tVar_mono))), ?_⟩
    refine ⟨_, rfl, a, C, dx, _, _, rfl, h1, N.pc.cl, N.pc.nR, rfl, _, rfl, b, q, rfl, hb, fun u hu => ?_⟩
    refine ⟨t, u, r, q, n, m, rfl, .inr (.inl (.inl h2)), .inr (.inl (.inl hu)), lr, lq, bn, bm, ln, lm, fun H' p s' hp hp' => ?_⟩
    refine ⟨_, rfl, p, _, rfl, SqL.of hp', ?_, fun H2 p2 c j s2 hn hc he hcan => ?_⟩
    · rw [len_mulR]; omega
    · exact k H2 p2 c j (Same.trans s' s2) (s'.free hn) hc he hcan
def spNeg (C : Addr) : Sp := fun vs H Q _ => ∃ (a : Addr) (r : List Int), vs = [.ref a] ∧ PolyAt C H a r ∧ r.length ≤ 100 ∧
  ∀ (H' : Hp) (p : Addr) (c : List Int) (k : Nat), Same H H' → H p = none → PolyAt C H' p c → oppR r = c ++ List.replicate k 0 → Canon c → Q (.ref p) H'
theorem scNeg : FnScope ["self", "found"] ["self"] (defScope sPNeg) := ⟨rfl, rfl, rfl, by decide +kernel, rfl, by decide +kernel, by decide +kernel⟩
theorem ok_neg {f C : Addr} {fd : FuncData} (F : Fun K "__neg__" "Polynomial.__neg__" sPNeg f fd) (T : Bn mg) (N : PMk P w K mg base C) (DO : Df P w K mg base "opposite_row" ["row"] 1 (spOpp K)) : FnOk P w K mg base CX0 4 f fd ["self"] (spNeg C) := by
  refine F.ok scNeg (fun vs H Q E h => ?_) (fun cdv A outer s H vs Q E hr h => ?_)
  · obtain ⟨a, r, rfl, _⟩ := h
    rfl
  · obtain ⟨a, r, rfl, ha, lr, k⟩ := h
    obtain ⟨dx, t, h1, h2⟩ := id ha
    refine ⟨_, pss_cons (ps_set (i := 1) scNeg.nd rfl (Or.inl rfl) (pe_df DO (hr.mono (by decide)) (by rfl) (pa_cons (pe_fld (pv 0) rfl) pa_nil)))
      (pss_one (ps_ret (pe_polyS N hr (by rfl) (pv 1) tVar_mono))), ?_⟩
    refine ⟨_, rfl, a, C, dx, _, _, rfl, h1, N.pc.cl, N.pc.nR, rfl, t, r, rfl, .inl (.inl h2), by omega, fun H' p s' hp hp' => ?_⟩
    refine ⟨_, rfl, p, _, rfl, SqL.of hp', ?_, fun H2 p2 c j s2 hn hc he hcan => ?_⟩
    · unfold oppR; rw [List.length_map]; omega
    · exact k H2 p2 c j (Same.trans s' s2) (s'.free hn) hc he hcan
end
end S75

namespace S75
open PySem L2 SR
section
variable {P : Program} {w : World} {K : PySem.W.Frag} {mg : Str → Option Value} {base : Heap}
/-! ### operators as rules -/
structure POp (P : Program) (w : World) (K : PySem.W.Frag) (mg : Str → Option Value) (base : Heap) (C : Addr) : Prop where
  pl : PCl P w K mg base C
  mul : ∃ g, PySem.W.findIn K (.ref C) "__mul__" = some (some (.ref g)) ∧ PySem.W.isFn K (.ref g) = true ∧ FnR P w K mg base CX0 4 g (spBin C mulR preM)
  add : ∃ g, PySem.W.findIn K (.ref C) "__add__" = some (some (.ref g)) ∧ PySem.W.isFn K (.ref g) = true ∧ FnR P w K mg base CX0 4 g (spBin C addR fun _ _ => True)
  sub : ∃ g, PySem.W.findIn K (.ref C) "__sub__" = some (some (.ref g)) ∧ PySem.W.isFn K (.ref g) = true ∧ FnR P w K mg base CX0 4 g (spBin C (fun r q => addR r (oppR q)) fun _ _ => True)
  neg : ∃ g, PySem.W.findIn K (.ref C) "__neg__" = some (some (.ref g)) ∧ PySem.W.isFn K (.ref g) = true ∧ FnR P w K mg base CX0 4 g (spNeg C)
def rPol (C : Addr) (g : List Int → List Int → List Int) (pre : List Int → List Int → Prop) : R2 := fun x y H Q => ∃ (a b : Addr) (r q : List Int), x = .ref a ∧ y = .ref b ∧ PolyAt C H a r ∧ PolyAt C H b q ∧ r.length ≤ 100 ∧ q.length ≤ 100 ∧ pre r q ∧
  ∀ (H' : Hp) (p : Addr) (c : List Int) (k : Nat), Same H H' → H p = none → PolyAt C H' p c → g r q = c ++ List.replicate k 0 → Canon c → Q (.ref p) H'
theorem OpR.imp {X : Cx} {f : Value → Value → Sem Value} {r r' : R2} (h : OpR X f r) (i : ∀ x y H Q, r' x y H Q → r x y H Q) : OpR X f r' := fun pins s σ H x y v u Q I rx ry q => h pins s σ H x y v u Q I rx ry (i x y H Q q)
theorem pol_own {C : Addr} {g : List Int → List Int → List Int} {pre : List Int → List Int → Prop} {E : XK} (x y : V) (H : Hp) (Q : VK) (h : rPol C g pre x y H Q) : rOwnB C (spBin C g pre) E x y H Q := by
  obtain ⟨a, b, r, q, rfl, rfl, ha, hb, l1, l2, hp, k⟩ := h
  obtain ⟨dx, t, h1, h2⟩ := id ha
  obtain ⟨dy, u, g1, g2⟩ := id hb
  exact ⟨a, dx, _, b, dy, _, rfl, rfl, h1, g1, a, b, r, q, rfl, ha, hb, l1, l2, hp, k⟩
theorem op_pmul {X : Cx} {C : Addr} (N : POp X.prog X.w X.K X.mg X.base C) (hr : Room 4 X.A) : OpR X (binaryOp .Mult) (rPol C mulR preM) := by
  obtain ⟨g, h1, h2, h3⟩ := N.mul
  exact OpR.imp (op_ownB (op := .Mult) (E := E0) N.pl.pm.pc.sf h1 h2 h3 hr pass0) pol_own
theorem op_padd {X : Cx} {C : Addr} (N : POp X.prog X.w X.K X.mg X.base C) (hr : Room 4 X.A) : OpR X (binaryOp .Add) (rPol C addR fun _ _ => True) := by
  obtain ⟨g, h1, h2, h3⟩ := N.add
  exact OpR.imp (op_ownB (op := .Add) (E := E0) N.pl.pm.pc.sf h1 h2 h3 hr pass0) pol_own
theorem op_psub {X : Cx} {C : Addr} (N : POp X.prog X.w X.K X.mg X.base C) (hr : Room 4 X.A) : OpR X (binaryOp .Sub) (rPol C (fun r q => addR r (oppR q)) fun _ _ => True) := by
  obtain ⟨g, h1, h2, h3⟩ := N.sub
  exact OpR.imp (op_ownB (op := .Sub) (E := E0) N.pl.pm.pc.sf h1 h2 h3 hr pass0) pol_own
def rPneg (C : Addr) : V → Hp → VK → Prop := fun x H Q => ∃ (a : Addr) (r : List Int), x = .ref a ∧ PolyAt C H a r ∧ r.length ≤ 100 ∧
  ∀ (H' : Hp) (p : Addr) (c : List Int) (k : Nat), Same H H' → H p = none → PolyAt C H' p c → oppR r = c ++ List.replicate k 0 → Canon c → Q (.ref p) H'
theorem un_pneg {X : Cx} {C : Addr} (N : POp X.prog X.w X.K X.mg X.base C) (hr : Room 4 X.A) : UnR X (unaryOp .USub) (rPneg C) := by
  obtain ⟨g, h1, h2, h3⟩ := N.neg
  intro pins s σ H x v Q I rx h
  obtain ⟨a, r, rfl, ha, l, k⟩ := h
  obtain ⟨dx, t, g1, g2⟩ := id ha
  exact un_own (E := E0) h1 h2 h3 hr pass0 pins s σ H _ v Q I rx ⟨a, dx, _, rfl, g1, a, r, rfl, ha, l, k⟩
theorem tCons1_mono {i : Nat} (σ : St) (H : Hp) (Q Q' : List V → Hp → Prop) (h : ∀ y H1, Q y H1 → Q' y H1) (q : tCons (tVar i) tNil σ H Q) : tCons (tVar i) tNil σ H Q' := by
  obtain ⟨v, e, q⟩ := q
  exact ⟨v, e, h _ _ q⟩
theorem tConst2_mono {a b : V} (σ : St) (H : Hp) (Q Q' : List V → Hp → Prop) (h : ∀ y H1, Q y H1 → Q' y H1) (q : tCons (tC a) (tCons (tC b) tNil) σ H Q) : tCons (tC a) (tCons (tC b) tNil) σ H Q' := h _ _ q
/-- of g r q = c ++ zeros -/
theorem row_ev {r c : List Int} {k : Nat} (e : r = c ++ List.replicate k 0) (x : Int) : ev c x = ev r x := by rw [e, ev_append_zeros]
theorem row_bd {r c : List Int} {k n : Nat} (e : r = c ++ List.replicate k 0) (h : Bd n r) : Bd n c := by rw [e] at h; exact h.append
/-! ### step_of -/
def spStep (C : Addr) : Sp := fun vs H Q _ => ∃ (p : Addr) (r : List Int) (n : Nat), vs = [.ref p] ∧ PolyAt C H p r ∧ Bd n r ∧ n ≤ 1500 ∧ r.length ≤ 8 ∧
  ∀ (H' : Hp) (p' : Addr) (c : List Int), Same H H' → H p' = none → PolyAt C H' p' c → Canon c → (∀ x, ev c x = ev r (x + 1) - ev r x) → Bd (n + 60) c → Q (.ref p') H'
abbrev nStep : List Str := ["polynomial", "found", "one"]
theorem scStep : FnScope nStep ["polynomial"] (defScope sStepOf) := ⟨rfl, rfl, rfl, by decide +kernel, rfl, by decide +kernel, by decide +kernel⟩
theorem bd_one1 : Bd 1 [1, 1] := fun a ha => by
  rcases List.mem_cons.mp ha with rfl | ha
  · decide
  · rcases List.mem_cons.mp ha with rfl | ha
    · decide
    · cases ha
theorem ok_step {f C : Addr} {fd : FuncData} (F : Fun K "step_of" "step_of" sStepOf f fd) (N : POp P w K mg base C) : FnOk P w K mg base CX0 5 f fd ["polynomial"] (spStep C) := by
  refine F.ok scStep (fun vs H Q E h => ?_) (fun cdv A outer s H vs Q E hr h => ?_)
  · obtain ⟨p, r, n, rfl, _⟩ := h
    rfl
  · obtain ⟨p, r, n, rfl, hp, hn, ln, hl, q⟩ := h
    obtain ⟨g, gd, gm, gb, G⟩ := N.pl.coef
    obtain ⟨dx, t, h1, h2⟩ := id hp
    have hr3 : Room 3 _ := hr.mono (by decide)
    refine ⟨_, pss_cons (ps_set (i := 1) scStep.nd rfl (Or.inl rfl) (pe_poly0 N.pl.pm hr3 (by rfl)))
      (pss_cons (ps_for PassesOwn.never rfl (pi_tup (pe_revT (pe_meth0 (pv 0) N.pl.pm.pc.cl gm G (hr.mono (by decide)) gb .nil pass0))) (pg_name (i := 2) scStep.nd rfl (Or.inl rfl))
        (pss_one (ps_set (i := 1) scStep.nd rfl (Or.inl rfl) (pe_op (op_padd N hr) (pe_op (op_pmul N hr) (pv 1) (pe_poly N.pl.pm hr3 (by rfl) (pa_cons pe_int (pa_cons pe_int pa_nil)) tConst2_mono)) (pe_poly N.pl.pm hr3 (by rfl) (pa_cons (pv 2) pa_nil) tCons1_mono)))))
      (pss_one (ps_ret (pe_op (op_psub N hr) (pv 1) (pv 0))))), ?_⟩
    refine ⟨Nat.zero_le _, fun H1 p1 c1 k1 s1 n1 hc1 e1 can1 => ?_⟩
    have ec1 : c1 = [] := by
      cases c1 with
      | nil => rfl
      | cons a b => cases e1
    subst ec1
    refine ⟨_, rfl, p, dx, _, rfl, s1 _ _ h1, rfl, p, r, rfl, hp.same s1, fun t' ht' => ?_⟩
    refine ⟨t', _, rfl, .inl (.inl ht'), fun u hu => ?_⟩
    have s2 := sNew (o := .tup (r.map V.int).reverse) s1 hu
    refine ⟨u, rfl, ⟨_, .inl (.inl upd_same)⟩, for_it (walk_tup (K := K) (a := u) (xs := (r.map V.int).reverse)) (fun i σ H' => Same (upd H1 u (.tup (r.map V.int).reverse)) H' ∧ ∃ v pf c, σ = [some (.ref p), some (.ref pf), v] ∧ PolyAt C H' pf c ∧ H pf = none ∧ Canon c ∧ (∀ x, ev c x = ev (r.drop (r.length - i)) (x + 1)) ∧ Bd (n + 7 * i) c)
      ⟨Same.refl _, none, p1, [], rfl, hc1.same (sNew (Same.refl _) hu), n1, (by simp [Canon]), fun x => by rw [Nat.sub_zero, List.drop_length]; rfl, fun a ha => by cases ha⟩ (fun i σ H' _ h => .inl (.inl (h.1 _ _ upd_same))) ?_ ?_⟩
    · rintro i y σ _ H' hi ⟨s3, v, pf, c, rfl, hc, npf, can, hev, hbd⟩ ⟨rfl, hy⟩
      rw [← List.map_reverse] at hy
      obtain ⟨z, hz, rfl⟩ := map_get hy
      have hi' : i < r.length := by simpa using hi
      have hlc : c.length ≤ i := by
        have h3 := canon_len (c := c) (q := shiftR (r.drop (r.length - i))) (N := 0) can (fun x _ => by rw [hev, ev_shiftR])
        rw [len_shiftR, List.length_drop] at h3
        omega
      refine ⟨_, rfl, ?_⟩
      refine ⟨[1, 1], rfl, (by decide), fun H4 p4 c4 k4 s4 n4 hc4 e4 can4 => ?_⟩
      have ec4 : c4 = [1, 1] := by
        cases k4 with
        | zero => simpa using e4.symm
        | succ k =>
          exfalso
          have : ([1, 1] : List Int).getLast? = some 0 := by
            rw [e4, List.replicate_succ']
            simp
          simp at this
      subst ec4
      refine ⟨pf, p4, c, [1, 1], rfl, rfl, hc.same s4, hc4, by omega, by decide, ⟨_, 1, hbd, bd_one1, by omega, by omega⟩, fun H5 p5 c5 k5 s5 n5 hc5 e5 can5 => ?_⟩
      refine ⟨_, rfl, [z], rfl, (by show 1 ≤ 1000; decide), fun H6 p6 c6 k6 s6 n6 hc6 e6 can6 => ?_⟩
      have hb5 : Bd (n + 7 * i + 1 + 5) c5 := row_bd e5 (Bd.mul hbd bd_one1 (by simp only [List.length_cons, List.length_nil]; omega))
      have hb6 : Bd n c6 := row_bd e6 (fun a ha => by
        rcases List.mem_cons.mp ha with rfl | ha
        · exact hn a (List.mem_reverse.mp (List.mem_of_getElem? hz))
        · cases ha)
      have hl5 : c5.length ≤ 100 := by
        have h3 : (mulR c [1, 1]).length = c5.length + k5 := by rw [e5]; simp
        rw [len_mulR] at h3
        simp only [List.length_cons, List.length_nil] at h3
        omega
      have hl6 : c6.length ≤ 100 := by
        have h3 : ([z] : List Int).length = c6.length + k6 := by rw [e6]; simp
        simp only [List.length_cons, List.length_nil] at h3
        omega
      refine ⟨p5, p6, c5, c6, rfl, rfl, hc5.same s6, hc6, hl5, hl6, trivial, fun H7 p7 c7 k7 s7 n7 hc7 e7 can7 => ?_⟩
      refine ⟨Same.trans s3 (Same.trans s4 (Same.trans s5 (Same.trans s6 s7))), _, p7, c7, rfl, hc7, ?_, can7, fun x => ?_, ?_⟩
      · exact (Same.trans s2 (Same.trans s3 (Same.trans s4 (Same.trans s5 s6)))).free n7
      · rw [row_ev e7, ev_addR, row_ev e5, row_ev e6, ev_mulR, hev, ev_drop hz]
        show ev (r.drop (r.length - i)) (x + 1) * (1 + x * (1 + x * 0)) + (z + x * 0) = _
        rw [show (1 + x * (1 + x * 0) : Int) = x + 1 by omega, show z + x * 0 = z by omega]
      · exact row_bd e7 (Bd.add (by omega) (by omega) hb5 hb6)
    · rintro σ H' ⟨s3, v, pf, c, rfl, hc, npf, can, hev, hbd⟩
      have e : r.length - (r.map V.int).reverse.length = 0 := by simp
      have e2 : (r.map V.int).reverse.length = r.length := by simp
      rw [e2] at hbd hev
      rw [Nat.sub_self, List.drop_zero] at hev
      have hlc : c.length ≤ r.length := by
        have h3 := canon_len (c := c) (q := shiftR r) (N := 0) can (fun x _ => by rw [hev, ev_shiftR])
        rw [len_shiftR] at h3
        exact h3
      refine ⟨_, rfl, _, rfl, pf, p, c, r, rfl, rfl, hc, hp.same (Same.trans s2 s3), by omega, by omega, trivial, fun H7 p7 c7 k7 s7 n7 hc7 e7 can7 => ?_⟩
      refine q H7 p7 c7 (Same.trans s2 (Same.trans s3 s7)) ((Same.trans s2 s3).free n7) hc7 can7 (fun x => ?_) ?_
      · rw [row_ev e7, ev_addR, ev_oppR, hev]; omega
      · refine Bd.mono (row_bd e7 (Bd.add (k := n + 58) (n := n + 7 * r.length) (m := n) (by omega) (by omega) hbd hn.opp)) (by omega)
end
end S75

namespace S75
open PySem L2 SR
/-! ### lists of pairs -/
def Tups (H : Hp) : List V → List (Int × Int) → Prop
  | [], [] => True
  | v :: vs, p :: ps => (∃ t, v = .ref t ∧ H t = some (.tup [.int p.1, .int p.2])) ∧ Tups H vs ps
  | _, _ => False
theorem Tups.same {H H' : Hp} (s : Same H H') : ∀ {vs : List V} {L : List (Int × Int)}, Tups H vs L → Tups H' vs L
  | [], [], _ => trivial
  | _ :: _, _ :: _, ⟨⟨t, e, h⟩, r⟩ => ⟨⟨t, e, s _ _ h⟩, Tups.same s r⟩
  | [], _ :: _, h => h.elim
  | _ :: _, [], h => h.elim
theorem Tups.len {H : Hp} : ∀ {vs : List V} {L : List (Int × Int)}, Tups H vs L → vs.length = L.length
  | [], [], _ => rfl
  | _ :: _, _ :: _, ⟨_, r⟩ => by rw [List.length_cons, List.length_cons, Tups.len r]
  | [], _ :: _, h => h.elim
  | _ :: _, [], h => h.elim
theorem Tups.append {H : Hp} : ∀ {vs ws : List V} {L M : List (Int × Int)}, Tups H vs L → Tups H ws M → Tups H (vs ++ ws) (L ++ M)
  | [], _, [], _, _, h => h
  | _ :: _, _, _ :: _, _, ⟨a, r⟩, h => ⟨a, Tups.append r h⟩
  | [], _, _ :: _, _, h, _ => h.elim
  | _ :: _, _, [], _, h, _ => h.elim
theorem Tups.get {H : Hp} : ∀ {vs : List V} {L : List (Int × Int)} {i : Nat} {v : V}, Tups H vs L → vs[i]? = some v → ∃ p t, L[i]? = some p ∧ v = .ref t ∧ H t = some (.tup [.int p.1, .int p.2])
  | [], [], i, v, _, e => by simp at e
  | x :: _, p :: _, 0, v, ⟨⟨t, h1, h2⟩, _⟩, e => by
    have e : x = v := Option.some.inj e
    exact ⟨p, t, rfl, e ▸ h1, h2⟩
  | _ :: vs, _ :: L, i + 1, v, ⟨_, r⟩, e => Tups.get (vs := vs) (L := L) (i := i) r e
  | [], _ :: _, _, _, h, _ => h.elim
  | _ :: _, [], _, _, h, _ => h.elim
theorem Tups.one {H : Hp} {t : Addr} {a b : Int} (h : H t = some (.tup [.int a, .int b])) : Tups H [.ref t] [(a, b)] := ⟨⟨t, rfl, h⟩, trivial⟩
def RunsAt (H : Hp) (l : Addr) (L : List (Int × Int)) : Prop := ∃ vs, H l = some (.lst vs) ∧ Tups H vs L
theorem RunsAt.same {H H' : Hp} {l : Addr} {L : List (Int × Int)} (s : Same H H') (h : RunsAt H l L) : RunsAt H' l L := by
  obtain ⟨vs, h1, h2⟩ := h
  exact ⟨vs, s _ _ h1, h2.same s⟩
def dPairs (L : List (Int × Int)) : PyData := .list (L.map fun p => .tuple [.int p.1, .int p.2])
theorem lay_pairs (L : List (Int × Int)) : PyData.canLayAll0 (L.map fun p => .tuple [.int p.1, .int p.2]) = true := by
  induction L with
  | nil => rfl
  | cons a r ih => show (true && PyData.canLayAll0 (r.map _)) = true; rw [ih]; rfl
theorem depth_pairs (L : List (Int × Int)) : PyData.depthAll (L.map fun p => .tuple [.int p.1, .int p.2]) ≤ 1 := by
  induction L with
  | nil => exact Nat.zero_le _
  | cons a r ih => show max 1 (PyData.depthAll (r.map _)) ≤ 1; omega
theorem sh_pairs (L : List (Int × Int)) : SeqAt.shaped (dPairs L) = true := by
  show (PyData.canLayAll0 (L.map _) && decide (PyData.depthAll (L.map _) + 1 ≤ 64)) = true
  rw [lay_pairs]
  exact decide_eq_true (by have := depth_pairs L; omega)
theorem dp_pairsAll {K : PySem.W.Frag} {H : Hp} : ∀ {vs : List V} {L : List (Int × Int)}, Tups H vs L → DpAll K H vs (L.map fun p => .tuple [.int p.1, .int p.2])
  | [], [], _ => .nil
  | _ :: _, _ :: _, ⟨⟨t, e, h⟩, r⟩ => by subst e; exact .cons (.tup (.inl (.inl h)) (.cons (.int _) (.cons (.int _) .nil))) (dp_pairsAll r)
  | [], _ :: _, h => h.elim
  | _ :: _, [], h => h.elim
theorem dp_pairs {K : PySem.W.Frag} {H : Hp} {l : Addr} {L : List (Int × Int)} (h : RunsAt H l L) : Dp K H (.ref l) (dPairs L) := by
  obtain ⟨vs, h1, h2⟩ := h
  exact .lst (SqL.of h1) (dp_pairsAll h2)
theorem eqv_pairs_nil (L : List (Int × Int)) : PyData.eqv (dPairs L) (dPairs []) = decide (L = []) := by
  cases L with
  | nil => rfl
  | cons a r => rfl
theorem eqv_pairs_self (L : List (Int × Int)) : PyData.eqv (dPairs L) (dPairs L) = true := SeqAt.eqv_refl _ (lay_pairs L)
section
variable {P : Program} {w : World} {K : PySem.W.Frag} {mg : Str → Option Value} {base : Heap}
/-- the tuples stand, if all but a list stands -/
theorem tups_but {H H' : Hp} {D : Addr} {xs : List V} (s : ∀ b o, b ≠ D → H b = some o → H' b = some o) (hD : H D = some (.lst xs)) : ∀ {vs : List V} {L : List (Int × Int)}, Tups H vs L → Tups H' vs L
  | [], [], _ => trivial
  | _ :: _, _ :: _, ⟨⟨t, e, h⟩, r⟩ => ⟨⟨t, e, s _ _ (fun z => by rw [z, hD] at h; cases h) h⟩, tups_but s hD r⟩
  | [], _ :: _, h => h.elim
  | _ :: _, [], h => h.elim
/-! ### joined_runs -/
def spJoined : Sp := fun vs H Q _ => ∃ (l : Addr) (L : List (Int × Int)), vs = [.ref l] ∧ RunsAt H l L ∧ L.length ≤ 50000 ∧ ∀ H' l', Same H H' → H l' = none → RunsAt H' l' (joined L) → Q (.ref l') H'
abbrev nJoined : List Str := ["runs", "found", "start", "sign"]
theorem scJoined : FnScope nJoined ["runs"] (defScope sJoined) := ⟨rfl, rfl, rfl, by decide +kernel, rfl, by decide +kernel, by decide +kernel⟩
theorem join_app {A : List (Int × Int)} {p : Int × Int} (h : ¬ A.getLast?.map (·.2) = some p.2) : joinStep A p = A ++ [p] := if_neg h
theorem join_keep {A : List (Int × Int)} {p : Int × Int} (h : A.getLast?.map (·.2) = some p.2) : joinStep A p = A := if_pos h
theorem join_len (L M : List (Int × Int)) : (M.foldl joinStep L).length ≤ L.length + M.length := by
  induction M generalizing L with
  | nil => simp
  | cons p r ih =>
    have h := ih (joinStep L p)
    have h2 : (joinStep L p).length ≤ L.length + 1 := by
      unfold joinStep; split
      · omega
      · simp
    simp only [List.foldl_cons, List.length_cons]; omega
theorem fold_take {L : List (Int × Int)} {i : Nat} {p : Int × Int} (h : L[i]? = some p) : (L.take (i + 1)).foldl joinStep [] = joinStep ((L.take i).foldl joinStep []) p := by
  rw [List.take_add_one, h, List.foldl_append]; rfl
theorem ok_joined {f : Addr} {fd : FuncData} (F : Fun K "joined_runs" "joined_runs" sJoined f fd) : FnOk P w K mg base CX0 1 f fd ["runs"] spJoined := by
  refine F.ok scJoined (fun vs H Q E h => ?_) (fun cdv A outer s H vs Q E hr h => ?_)
  · obtain ⟨l, L, rfl, _⟩ := h
    rfl
  · obtain ⟨l, L, rfl, hL, hlen, q⟩ := h
    obtain ⟨ws, hw, tw⟩ := id hL
    refine ⟨_, pss_cons (ps_set (i := 1) scJoined.nd rfl (Or.inl rfl) (pe_lst pa_nil))
      (pss_cons (ps_for PassesOwn.never rfl (pi_list (pv 0)) (pg_tup rfl (pgs_cons (pg_name (i := 2) scJoined.nd rfl (Or.inl rfl)) (pgs_cons (pg_name (i := 3) scJoined.nd rfl (Or.inl rfl)) pgs_nil)))
        (pss_one (ps_if (PW.pt (pw_or (pt_cmpR (op_eqD hr.units) (pv 1) (pe_lst pa_nil) (nomark _)) (pw_or1 (pt_cmpR op_ne (pe_ix ix_tup (pe_ix ix_list (pv 1) (pe_un un_neg pe_int) (fun _ _ => rfl)) pe_int (fun _ _ => rfl)) (pv 3) (nomark _)))))
          (pss_one (ps_expr (pe_bm PySem.F.plainAttrs_list PySem.F.slot_list_append PySem.F.type_list_append mt_append (pv 1) (pa_cons (pe_tup (pa_cons (pv 2) (pa_cons (pv 3) pa_nil))) pa_nil)))) pss_nil)))
      (pss_one (ps_ret (pv 1)))), ?_⟩
    refine ⟨Nat.zero_le _, fun D hD => ?_⟩
    refine ⟨_, rfl, l, rfl, ⟨_, SqL.of (old hw hD)⟩, for_it (walk_list (K := K) (a := l) (xs := ws)) (fun i σ H' => Same H H' ∧ RunsAt H' D ((L.take i).foldl joinStep []) ∧ ∃ u v, σ = [some (.ref l), some (.ref D), u, v])
      ⟨sNew (Same.refl H) hD, ⟨[], upd_same, trivial⟩, none, none, rfl⟩ (fun i σ H' _ h => SqL.of (h.1 _ _ hw)) ?_ ?_⟩
    · rintro i y σ _ H' hi ⟨s1, ⟨acc, a1, a2⟩, u, v, rfl⟩ ⟨rfl, hy⟩
      obtain ⟨p, t, hp, rfl, ht⟩ := tw.get hy
      have hil : i < L.length := (List.getElem?_eq_some_iff.mp hp).1
      have hfold := fold_take hp
      refine ⟨t, _, rfl, .inl (.inl (s1 _ _ ht)), rfl, _, _, rfl, _, _, rfl, rfl, ?_⟩
      refine ⟨_, rfl, Nat.zero_le _, fun l2 hl2 => ?_⟩
      refine ⟨_, _, dp_pairs ⟨acc, old a1 hl2, a2.same (sNew (Same.refl _) hl2)⟩, dp_pairs (L := []) ⟨[], upd_same, trivial⟩, sh_pairs _, sh_pairs _, _, rfl, ?_⟩
      rw [eqv_pairs_nil]
      by_cases hA : (L.take i).foldl joinStep [] = []
      · rw [decide_eq_true hA]
        refine iteT ?_
        refine ⟨_, rfl, .inl ⟨rfl, _, SqL.of (old a1 hl2)⟩, _, rfl, _, rfl, (by show 2 ≤ sizeLine; decide), fun tp htp => ?_⟩
        refine ⟨D, _, _, rfl, rfl, old (old a1 hl2) htp, ?_, ?_⟩
        · rw [a2.len]
          have h3 := join_len [] (L.take i)
          simp only [List.length_take, List.length_nil] at h3
          exact lt_line (by omega)
        · have s3 := sNew (o := .tup [V.int p.1, V.int p.2]) (sNew (o := .lst []) s1 hl2) htp
          refine ⟨sPut s3 hD, ⟨_, upd_same, ?_⟩, _, _, rfl⟩
          rw [hfold, join_app (by rw [hA]; simp)]
          have nD : tp ≠ D := fun e => by rw [e, old a1 hl2] at htp; cases htp
          refine Tups.append ?_ (Tups.one (by rw [upd_ne nD, upd_same]))
          have sD : ∀ b o, b ≠ D → H' b = some o → upd (upd (upd H' l2 (.lst [])) tp (.tup [V.int p.1, V.int p.2])) D (.lst (acc ++ [V.ref tp])) b = some o := fun b o hb e => by rw [upd_ne hb]; exact old (old e hl2) htp
          exact tups_but sD a1 a2
      · rw [decide_eq_false hA]
        refine iteF ?_
        obtain ⟨B, z, hB⟩ : ∃ B z, (L.take i).foldl joinStep [] = B ++ [z] := ⟨_, _, (List.dropLast_concat_getLast hA).symm⟩
        have a2' := a2
        rw [hB] at a2'
        have hacc : acc ≠ [] := fun e => by
          have := a2'.len
          rw [e] at this
          simp at this
        obtain ⟨ac, va, rfl⟩ : ∃ ac va, acc = ac ++ [va] := ⟨_, _, (List.dropLast_concat_getLast hacc).symm⟩
        have hle : ac.length = B.length := by
          have := a2'.len
          simpa using this
        obtain ⟨p2, t2, hp2, rfl, ht2⟩ := a2'.get (i := ac.length) (v := va) (by simp)
        have ez : p2 = z := by
          rw [hle] at hp2
          simp at hp2
          exact hp2.symm
        subst ez
        refine ⟨_, rfl, _, rfl, D, _, _, _, rfl, rfl, SqL.of (old a1 hl2), atI_lastV _ _, t2, _, _, _, rfl, rfl, .inl (.inl (old ht2 hl2)), at_of (j := 1) rfl rfl, _, rfl, rfl, _, rfl, ?_⟩
        by_cases hz : p2.2 = p.2
        · have ed : decide (V.int p2.2 = V.int p.2) = true := decide_eq_true (by rw [hz])
          show if (!decide (V.int p2.2 = V.int p.2)) = true then _ else _
          rw [ed]
          refine iteF ?_
          refine ⟨sNew s1 hl2, ?_, _, _, rfl⟩
          rw [hfold, join_keep (by rw [hB]; simp [hz])]
          exact ⟨_, old a1 hl2, a2.same (sNew (Same.refl _) hl2)⟩
        · have ed : decide (V.int p2.2 = V.int p.2) = false := decide_eq_false (fun e => hz (V.int.inj e))
          show if (!decide (V.int p2.2 = V.int p.2)) = true then _ else _
          rw [ed]
          refine iteT ?_
          refine ⟨_, rfl, .inl ⟨rfl, _, SqL.of (old a1 hl2)⟩, _, rfl, _, rfl, (by show 2 ≤ sizeLine; decide), fun tp htp => ?_⟩
          refine ⟨D, _, _, rfl, rfl, old (old a1 hl2) htp, ?_, ?_⟩
          · rw [a2.len]
            have h3 := join_len [] (L.take i)
            simp only [List.length_take, List.length_nil] at h3
            exact lt_line (by omega)
          · have s3 := sNew (o := .tup [V.int p.1, V.int p.2]) (sNew (o := .lst []) s1 hl2) htp
            refine ⟨sPut s3 hD, ⟨_, upd_same, ?_⟩, _, _, rfl⟩
            rw [hfold, join_app (by rw [hB]; simp [hz])]
            have nD : tp ≠ D := fun e => by rw [e, old a1 hl2] at htp; cases htp
            refine Tups.append ?_ (Tups.one (by rw [upd_ne nD, upd_same]))
            have sD : ∀ b o, b ≠ D → H' b = some o → upd (upd (upd H' l2 (.lst [])) tp (.tup [V.int p.1, V.int p.2])) D (.lst ((ac ++ [V.ref t2]) ++ [V.ref tp])) b = some o := fun b o hb e => by rw [upd_ne hb]; exact old (old e hl2) htp
            exact tups_but sD a1 a2
    · rintro σ H' ⟨s1, hr1, u, v, rfl⟩
      refine ⟨_, rfl, ?_⟩
      refine q H' D s1 hD ?_
      rw [tw.len, List.take_of_length_le (Nat.le_refl _)] at hr1
      exact hr1
end
end S75

namespace S75
open PySem L2 SR
def enV : Option Int → V
  | none => .non
  | some i => .int i
def oneSign (r : List Int) : Option Int := if r.any (fun a => decide (a > 0)) = true then (if r.any (fun a => decide (a < 0)) = true then none else some 1) else some (if r = [] then 0 else -1)
section
variable {P : Program} {w : World} {K : PySem.W.Frag} {mg : Str → Option Value} {base : Heap}
/-! ### one_sign -/
def spOne (K : PySem.W.Frag) : Sp := fun vs H Q _ => ∃ (a : Addr) (r : List Int), vs = [.ref a] ∧ SqT K H a (r.map V.int) ∧ r.length ≤ 1000 ∧ ∀ H', Same H H' → Q (enV (oneSign r)) H'
theorem scOne : FnScope ["row", "one"] ["row"] (defScope sOneSign) := ⟨rfl, rfl, rfl, by decide +kernel, rfl, by decide +kernel, by decide +kernel⟩
theorem any_map (r : List Int) (f : Int → Bool) : (r.map f).any id = r.any f := by
  rw [List.any_map]; rfl
theorem ok_one {f : Addr} {fd : FuncData} (F : Fun K "one_sign" "one_sign" sOneSign f fd) (T : Bn mg) : FnOk P w K mg base CX0 1 f fd ["row"] (spOne K) := by
  refine F.ok scOne (fun vs H Q E h => ?_) (fun cdv A outer s H vs Q E hr h => ?_)
  · obtain ⟨a, r, rfl, _⟩ := h
    rfl
  · obtain ⟨a, r, rfl, hr1, hlen, q⟩ := h
    refine ⟨_, pss_cons (ps_if (pt_val (pe_callB (cr_any rfl) (by rfl) T.any (by decide +kernel) (pa_cons (pe_lc (own := [("one", 1)]) (g := gName 1) (tt := tYes) (by rfl) scOne.nd (pi_tup (pv 0)) (blkOk_by (own := [("one", 1)]) (N := ["row", "one"]) (sc := defScope sOneSign) (by decide +kernel))
        (fun _ _ _ _ _ => pg_name (i := 1) scOne.nd rfl (Or.inl rfl)) (fun _ _ _ _ _ => pts_nil) (fun _ _ _ _ _ => pe_cmpR op_gt (pv 1) pe_int (nomark _))) pa_nil)))
        (pss_one (ps_ret (pe_ifExp (pt_val (pe_callB (cr_any rfl) (by rfl) T.any (by decide +kernel) (pa_cons (pe_lc (own := [("one", 1)]) (g := gName 1) (tt := tYes) (by rfl) scOne.nd (pi_tup (pv 0)) (blkOk_by (own := [("one", 1)]) (N := ["row", "one"]) (sc := defScope sOneSign) (by decide +kernel))
        (fun _ _ _ _ _ => pg_name (i := 1) scOne.nd rfl (Or.inl rfl)) (fun _ _ _ _ _ => pts_nil) (fun _ _ _ _ _ => pe_cmpR op_lt (pv 1) pe_int (nomark _))) pa_nil))) pe_non pe_int))) pss_nil)
      (pss_one (ps_ret (pe_ifExp (pt_cmpR (op_neD hr.units) (pv 0) (pe_tup pa_nil) (nomark _)) (pe_un un_neg pe_int) pe_int))), ?_⟩
    refine ⟨_, rfl, a, rfl, ⟨_, hr1⟩, fun D hD => ?_⟩
    refine lc_it (walk_tup (K := K) (a := a) (xs := r.map V.int)) (fun i H' => Same H H' ∧ H' D = some (.lst (((r.map fun a => decide (a > 0)).take i).map V.bl))) ⟨sNew (Same.refl H) hD, upd_same⟩ (fun i H' _ h => sTup h.1 hr1) ?_ ?_
    · rintro i x _ H' hi ⟨s1, h1⟩ ⟨rfl, hx⟩
      obtain ⟨z, hz, rfl⟩ := map_get hx
      refine ⟨rfl, _, rfl, _, _, rfl, rfl, _, h1, ?_, sPut s1 hD, ?_⟩
      · have : i < r.length := by simpa using hi
        simp only [List.length_map, List.length_take]
        exact lt_line (by omega)
      · rw [upd_same]
        congr 2
        refine take_succ_map (f := V.bl) ?_
        rw [List.getElem?_map, hz]; rfl
    rintro H1 ⟨s1, h1⟩
    rw [List.take_of_length_le (by simp)] at h1
    refine ⟨D, _, rfl, SqL.of h1, _, rfl, ?_⟩
    rw [any_map]
    by_cases hp : r.any (fun a => decide (a > 0)) = true
    · rw [hp]
      refine iteT ?_
      refine ⟨_, rfl, a, rfl, ⟨_, sTup s1 hr1⟩, fun D2 hD2 => ?_⟩
      refine lc_it (walk_tup (K := K) (a := a) (xs := r.map V.int)) (fun i H' => Same H1 H' ∧ H' D2 = some (.lst (((r.map fun a => decide (a < 0)).take i).map V.bl))) ⟨sNew (Same.refl H1) hD2, upd_same⟩ (fun i H' _ h => sTup (Same.trans s1 h.1) hr1) ?_ ?_
      · rintro i x _ H' hi ⟨s2, h2⟩ ⟨rfl, hx⟩
        obtain ⟨z, hz, rfl⟩ := map_get hx
        refine ⟨rfl, _, rfl, _, _, rfl, rfl, _, h2, ?_, sPut s2 hD2, ?_⟩
        · have : i < r.length := by simpa using hi
          simp only [List.length_map, List.length_take]
          exact lt_line (by omega)
        · rw [upd_same]
          congr 2
          refine take_succ_map (f := V.bl) ?_
          rw [List.getElem?_map, hz]; rfl
      rintro H2 ⟨s2, h2⟩
      rw [List.take_of_length_le (by simp)] at h2
      refine ⟨D2, _, rfl, SqL.of h2, _, rfl, ?_⟩
      rw [any_map]
      have q2 := q H2 (Same.trans s1 s2)
      unfold oneSign at q2
      rw [if_pos hp] at q2
      by_cases hn : r.any (fun a => decide (a < 0)) = true
      · rw [hn]
        rw [if_pos hn] at q2
        exact iteT q2
      · rw [if_neg hn] at q2
        rw [show r.any (fun a => decide (a < 0)) = false by simpa using hn]
        exact iteF q2
    · have hp' : r.any (fun a => decide (a > 0)) = false := by simpa using hp
      rw [hp']
      refine iteF ?_
      refine ⟨_, rfl, Nat.zero_le _, fun t ht => ?_⟩
      have s2 := sNew (o := .tup []) s1 ht
      refine ⟨dTup r, dTup [], dp_tup (sTup s2 hr1), dp_tup (r := []) (.inl (.inl upd_same)), sh_tup _, sh_tup _, _, rfl, ?_⟩
      rw [tup_nil]
      have q2 := q _ s2
      unfold oneSign at q2
      rw [if_neg hp] at q2
      by_cases hn : r = []
      · rw [if_pos hn] at q2
        rw [decide_eq_true hn]
        exact iteF q2
      · rw [if_neg hn] at q2
        rw [decide_eq_false hn]
        refine iteT ?_
        exact ⟨1, rfl, q2⟩
end
end S75

namespace S75
open PySem L2 SR
section
variable {P : Program} {w : World} {K : PySem.W.Frag} {mg : Str → Option Value} {base : Heap}
/-! ### first_other -/
/-- what first_other asks and promises: g the sign by places -/
structure FoPre (g : Int → Int) (sg st : Int) (en : Option Int) (m : Nat) : Prop where
  at0 : g st = sg
  st0 : 0 ≤ st
  mono : ∀ d d', st ≤ d → d ≤ d' → (∀ e, en = some e → d' < e) → g d ≠ sg → g d' ≠ sg
  fin : ∀ e, en = some e → st < e ∧ e.natAbs < 2 ^ m
  inf : en = none → ∃ T : Int, st < T ∧ T.natAbs < 2 ^ m ∧ ∀ d, T ≤ d → g d ≠ sg
def spFirst (C : Addr) : Sp := fun vs H Q _ => ∃ (p : Addr) (r : List Int) (sg st : Int) (en : Option Int) (n m : Nat), vs = [.ref p, .int sg, .int st, enV en] ∧ PolyAt C H p r ∧ Bd n r ∧ r.length ≤ 20 ∧ n ≤ 2000 ∧ m ≤ 1900 ∧
  FoPre (fun d => sgn (ev r d)) sg st en m ∧
  ∀ (H' : Hp) (h : Int), Same H H' → st < h → (∀ e, en = some e → h ≤ e) → (∀ d, st ≤ d → d < h → sgn (ev r d) = sg) → ((∀ e, en = some e → h < e) → sgn (ev r h) ≠ sg) → Q (.int h) H'
abbrev nFirst : List Str := ["polynomial", "sign", "start", "end", "low", "high", "reach", "middle"]
theorem scFirst : FnScope nFirst ["polynomial", "sign", "start", "end"] (defScope sFirst) := ⟨rfl, rfl, rfl, by decide +kernel, rfl, by decide +kernel, by decide +kernel⟩
theorem small_of {a b : Int} {m k : Nat} (h0 : 0 ≤ a) (h : a ≤ 2 * b) (hb : b.natAbs < 2 ^ m) (hk : m < k) : a.natAbs < 2 ^ k := by
  have h1 : 2 ^ (m + 1) ≤ 2 ^ k := pow_mono (by omega)
  rw [Nat.pow_succ] at h1
  omega
theorem ok_first {f C : Addr} {fd : FuncData} (F : Fun K "first_other" "first_other" sFirst f fd) (DS : Df P w K mg base "sign_at" ["polynomial", "d"] 3 (spSignAt C)) : FnOk P w K mg base CX0 4 f fd ["polynomial", "sign", "start", "end"] (spFirst C) := by
  refine F.ok scFirst (fun vs H Q E h => ?_) (fun cdv A outer s H vs Q E hr h => ?_)
  · obtain ⟨p, r, sg, st, en, n, m, rfl, _⟩ := h
    rfl
  · obtain ⟨p, r, sg, st, en, n, m, rfl, hp, hn, hl, ln, lm, pre, q⟩ := h
    refine ⟨_, pss_cons (ps_par (i := 4) (j := 5) (by rfl) scFirst.nd rfl rfl (by decide) rfl rfl (pa_cons (pv 2) (pa_cons (pv 3) pa_nil)) (by rfl))
      (pss_cons (ps_if (pt_cmpR op_isN (pv 3) pe_non (nomark _))
        (pss_cons (ps_set (i := 6) scFirst.nd rfl (Or.inl rfl) pe_int)
        (pss_cons (ps_while PassesOwn.never (pt_cmpR op_eq (pe_df DS hr (by rfl) (pa_cons (pv 0) (pa_cons (pe_op op_add (pv 2) (pv 6)) pa_nil))) (pv 1) (nomark _)) (pss_one (ps_set (i := 6) scFirst.nd rfl (Or.inl rfl) (pe_op op_mul pe_int (pv 6)))))
        (pss_one (ps_set (i := 5) scFirst.nd rfl (Or.inl rfl) (pe_op op_add (pv 2) (pv 6)))))) pss_nil)
      (pss_cons (ps_while PassesOwn.never (pt_cmpR op_gt (pe_op op_sub (pv 5) (pv 4)) pe_int (nomark _))
        (pss_cons (ps_set (i := 7) scFirst.nd rfl (Or.inl rfl) (pe_op op_fdiv (pe_op op_add (pv 4) (pv 5)) pe_int))
        (pss_one (ps_if (pt_cmpR op_eq (pe_df DS hr (by rfl) (pa_cons (pv 0) (pa_cons (pv 7) pa_nil))) (pv 1) (nomark _)) (pss_one (ps_set (i := 4) scFirst.nd rfl (Or.inl rfl) (pv 7))) (pss_one (ps_set (i := 5) scFirst.nd rfl (Or.inl rfl) (pv 7)))))))
      (pss_one (ps_ret (pv 5))))), ?_⟩
    refine ⟨_, rfl, _, rfl, _, _, rfl, ?_⟩
    -- the second loop, from any state that has found a place
    have loop2 : ∀ (D : Ends) (tc : TT) (tb : TS), True := fun _ _ _ => trivial
    refine ⟨_, rfl, rfl, _, rfl, ?_⟩
    cases en with
    | some e =>
      refine iteF ?_
      obtain ⟨hse, hem⟩ := pre.fin e rfl
      refine ⟨fun mm σ H' => ∃ lo hi : Int, ∃ v7 v6, σ = [some (.ref p), some (.int sg), some (.int st), some (.int e), some (.int lo), some (.int hi), v6, v7] ∧ mm = (hi - lo).toNat ∧ Same H H' ∧ st ≤ lo ∧ lo < hi ∧ hi ≤ e ∧ sgn (ev r lo) = sg ∧ (hi < e → sgn (ev r hi) ≠ sg), ⟨_, st, e, none, none, rfl, rfl, Same.refl H, Int.le_refl _, hse, Int.le_refl _, pre.at0, fun h => absurd h (by omega)⟩, ?_⟩
      rintro mm σ H1 ⟨lo, hi, v7, v6, rfl, rfl, s1, h1, h2, h3, h4, h5⟩
      refine ⟨_, rfl, _, rfl, _, _, rfl, rfl, _, _, rfl, rfl, _, rfl, ?_⟩
      by_cases hgap : hi - lo > 1
      · rw [decide_eq_true hgap]
        refine iteT ?_
        refine ⟨fun σ' H' => ∃ lo' hi' : Int, ∃ v7' v6', σ' = [some (.ref p), some (.int sg), some (.int st), some (.int e), some (.int lo'), some (.int hi'), v6', v7'] ∧ (hi' - lo').toNat < (hi - lo).toNat ∧ Same H H' ∧ st ≤ lo' ∧ lo' < hi' ∧ hi' ≤ e ∧ sgn (ev r lo') = sg ∧ (hi' < e → sgn (ev r hi') ≠ sg), fun σ' H' ⟨lo', hi', a, b, c1, c2, c3, c4⟩ => ⟨_, c2, lo', hi', a, b, c1, rfl, c3, c4⟩, ?_⟩
        have hmid : lo < (lo + hi) / 2 ∧ (lo + hi) / 2 < hi := by omega
        refine ⟨_, rfl, _, rfl, _, _, rfl, rfl, _, _, rfl, rfl, ⟨by decide, by decide⟩, ?_⟩
        have s0 := pre.st0
        refine ⟨_, rfl, _, rfl, p, r, (lo + hi) / 2, n, m + 1, rfl, hp.same s1, hn, small_of (b := e) (m := m) (by omega) (by omega) hem (by omega), hl, ln, by omega, fun H2 s2 => ?_⟩
        refine ⟨_, rfl, rfl, _, rfl, ?_⟩
        by_cases hs : sgn (ev r ((lo + hi) / 2)) = sg
        · rw [decide_eq_true (congrArg V.int hs)]
          refine iteT ?_
          exact ⟨_, rfl, _, hi, _, _, rfl, by omega, Same.trans s1 s2, by omega, hmid.2, h3, hs, h5⟩
        · rw [decide_eq_false (fun z => hs (V.int.inj z))]
          refine iteF ?_
          exact ⟨_, rfl, lo, _, _, _, rfl, by omega, Same.trans s1 s2, h1, hmid.1, by omega, h4, fun _ => hs⟩
      · rw [decide_eq_false hgap]
        refine iteF ?_
        refine ⟨_, rfl, q H1 hi s1 (by omega) (fun e' he => by cases he; exact h3) (fun d hd1 hd2 => ?_) (fun hh => h5 (hh e rfl))⟩
        by_cases hd : sgn (ev r d) = sg
        · exact hd
        · exact absurd h4 (pre.mono d lo hd1 (by omega) (fun e' he => by cases he; omega) hd)
    | none =>
      refine iteT ?_
      obtain ⟨T, hT, hTm, hTd⟩ := pre.inf rfl
      have s0 := pre.st0
      refine ⟨fun mm σ H' => ∃ re : Int, σ = [some (.ref p), some (.int sg), some (.int st), some .non, some (.int st), some .non, some (.int re), none] ∧ mm = (2 * T - st - re).toNat ∧ Same H H' ∧ 1 ≤ re ∧ st + re ≤ 2 * T, ⟨_, 1, rfl, rfl, Same.refl H, by omega, by omega⟩, ?_⟩
      rintro mm σ H1 ⟨re, rfl, rfl, s1, h1, h2⟩
      refine ⟨_, rfl, _, rfl, _, rfl, _, _, rfl, rfl, p, r, st + re, n, m + 1, rfl, hp.same s1, hn, small_of (b := T) (m := m) (by omega) h2 hTm (by omega), hl, ln, by omega, fun H2 s2 => ?_⟩
      refine ⟨_, rfl, rfl, _, rfl, ?_⟩
      by_cases hs : sgn (ev r (st + re)) = sg
      · rw [decide_eq_true (congrArg V.int hs)]
        refine iteT ?_
        have hlt : st + re < T := by
          by_cases h : st + re < T
          · exact h
          · exact absurd hs (hTd _ (by omega))
        refine ⟨fun σ' H' => ∃ re' : Int, σ' = [some (.ref p), some (.int sg), some (.int st), some .non, some (.int st), some .non, some (.int re'), none] ∧ (2 * T - st - re').toNat < (2 * T - st - re).toNat ∧ Same H H' ∧ 1 ≤ re' ∧ st + re' ≤ 2 * T, fun σ' H' ⟨re', c1, c2, c3⟩ => ⟨_, c2, re', c1, rfl, c3⟩, ?_⟩
        exact ⟨_, rfl, _, _, rfl, rfl, .inl ⟨by decide, by decide⟩, 2 * re, rfl, by omega, Same.trans s1 s2, by omega, by omega⟩
      · rw [decide_eq_false (fun z => hs (V.int.inj z))]
        refine iteF ?_
        refine ⟨_, rfl, _, rfl, _, _, rfl, rfl, ?_⟩
        refine ⟨fun mm σ H' => ∃ lo hi : Int, ∃ v7 v6, σ = [some (.ref p), some (.int sg), some (.int st), some .non, some (.int lo), some (.int hi), v6, v7] ∧ mm = (hi - lo).toNat ∧ Same H H' ∧ st ≤ lo ∧ lo < hi ∧ hi ≤ 2 * T ∧ sgn (ev r lo) = sg ∧ sgn (ev r hi) ≠ sg, ⟨_, st, st + re, none, _, rfl, rfl, Same.trans s1 s2, Int.le_refl _, by omega, h2, pre.at0, hs⟩, ?_⟩
        rintro mm σ H3 ⟨lo, hi, v7, v6, rfl, rfl, s3, g1, g2, g3, g4, g5⟩
        refine ⟨_, rfl, _, rfl, _, _, rfl, rfl, _, _, rfl, rfl, _, rfl, ?_⟩
        by_cases hgap : hi - lo > 1
        · rw [decide_eq_true hgap]
          refine iteT ?_
          refine ⟨fun σ' H' => ∃ lo' hi' : Int, ∃ v7' v6', σ' = [some (.ref p), some (.int sg), some (.int st), some .non, some (.int lo'), some (.int hi'), v6', v7'] ∧ (hi' - lo').toNat < (hi - lo).toNat ∧ Same H H' ∧ st ≤ lo' ∧ lo' < hi' ∧ hi' ≤ 2 * T ∧ sgn (ev r lo') = sg ∧ sgn (ev r hi') ≠ sg, fun σ' H' ⟨lo', hi', a, b, c1, c2, c3, c4⟩ => ⟨_, c2, lo', hi', a, b, c1, rfl, c3, c4⟩, ?_⟩
          have hmid : lo < (lo + hi) / 2 ∧ (lo + hi) / 2 < hi := by omega
          refine ⟨_, rfl, _, rfl, _, _, rfl, rfl, _, _, rfl, rfl, ⟨by decide, by decide⟩, ?_⟩
          refine ⟨_, rfl, _, rfl, p, r, (lo + hi) / 2, n, m + 1, rfl, hp.same s3, hn, small_of (b := T) (m := m) (by omega) (by omega) hTm (by omega), hl, ln, by omega, fun H4 s4 => ?_⟩
          refine ⟨_, rfl, rfl, _, rfl, ?_⟩
          by_cases hs2 : sgn (ev r ((lo + hi) / 2)) = sg
          · rw [decide_eq_true (congrArg V.int hs2)]
            refine iteT ?_
            exact ⟨_, rfl, _, hi, _, _, rfl, by omega, Same.trans s3 s4, by omega, hmid.2, g3, hs2, g5⟩
          · rw [decide_eq_false (fun z => hs2 (V.int.inj z))]
            refine iteF ?_
            exact ⟨_, rfl, lo, _, _, _, rfl, by omega, Same.trans s3 s4, g1, hmid.1, by omega, g4, hs2⟩
        · rw [decide_eq_false hgap]
          refine iteF ?_
          refine ⟨_, rfl, q H3 hi s3 (by omega) (fun e' he => by cases he) (fun d hd1 hd2 => ?_) (fun _ => g5)⟩
          by_cases hd : sgn (ev r d) = sg
          · exact hd
          · exact absurd g4 (pre.mono d lo hd1 (by omega) (fun e' he => by cases he) hd)
end
end S75

namespace S75
open PySem L2 SR
def dEn : Option Int → PyData
  | none => .none
  | some i => .int i
theorem dp_en {K : PySem.W.Frag} {H : Hp} (en : Option Int) : Dp K H (enV en) (dEn en) := by
  cases en with
  | none => exact .non
  | some i => exact .int i
theorem sh_en (en : Option Int) : SeqAt.shaped (dEn en) = true := by
  cases en with
  | none => rfl
  | some i => rfl
theorem sh_int (i : Int) : SeqAt.shaped (.int i) = true := rfl
theorem eqv_en (h : Int) (en : Option Int) : PyData.eqv (.int h) (dEn en) = decide (en = some h) := by
  cases en with
  | none => rfl
  | some i =>
    show (h == i) = decide (some i = some h)
    by_cases e : h = i
    · subst e; simp
    · have e2 : ¬ (some i = some h) := fun z => e (Option.some.inj z).symm
      rw [decide_eq_false e2]
      simpa using e
/-! ### a function that only rises, falls or stays -/
structure RiPre (f : Int → Int) (st : Int) (en : Option Int) (dir : Int) (m : Nat) : Prop where
  st0 : 0 ≤ st
  dirs : dir = -1 ∨ dir = 0 ∨ dir = 1
  fin : ∀ e, en = some e → st < e ∧ e.natAbs < 2 ^ m
  step : ∀ d, st ≤ d → (∀ e, en = some e → d + 1 < e) → sgn (f (d + 1) - f d) = dir
  far : ∃ T : Int, st < T ∧ T.natAbs < 2 ^ m ∧ (en = none → dir ≠ 0 → ∀ d, T ≤ d → sgn (f d) = dir)
theorem RiPre.go {f : Int → Int} {st : Int} {en : Option Int} {dir : Int} {m : Nat} (h : RiPre f st en dir m) : ∀ (k : Nat) (d : Int), st ≤ d → (∀ e, en = some e → d + (k : Int) < e) → (dir = 1 → f d ≤ f (d + k)) ∧ (dir = -1 → f (d + k) ≤ f d) ∧ (dir = 0 → f (d + k) = f d)
  | 0, d, _, _ => by simp
  | k + 1, d, hd, he => by
    obtain ⟨a, b, c⟩ := h.go k d hd (fun e q => by have := he e q; omega)
    have s := h.step (d + k) (by omega) (fun e q => by have := he e q; omega)
    have e1 : d + ((k + 1 : Nat) : Int) = d + k + 1 := by omega
    rw [e1]
    rcases sgn_cases (f (d + k + 1) - f (d + k)) with ⟨p, e⟩ | ⟨p, e⟩ | ⟨p, e⟩ <;> refine ⟨fun z => ?_, fun z => ?_, fun z => ?_⟩ <;> first | omega | (have := a z; omega) | (have := b z; omega) | (have := c z; omega)
theorem RiPre.mono {f : Int → Int} {st : Int} {en : Option Int} {dir : Int} {m : Nat} (h : RiPre f st en dir m) {d d' : Int} (h1 : st ≤ d) (h2 : d ≤ d') (he : ∀ e, en = some e → d' < e) :
    (dir = 1 → sgn (f d) ≤ sgn (f d')) ∧ (dir = -1 → sgn (f d') ≤ sgn (f d)) ∧ (dir = 0 → sgn (f d') = sgn (f d)) := by
  have e1 : d' = d + ((d' - d).toNat : Int) := by omega
  obtain ⟨a, b, c⟩ := h.go (d' - d).toNat d h1 (fun e q => by rw [← e1]; exact he e q)
  rw [← e1] at a b c
  exact ⟨fun z => sgn_mono (a z), fun z => sgn_mono (b z), fun z => by rw [c z]⟩
/-- where the sign is the direction, or there is none, it stays -/
theorem RiPre.stays {f : Int → Int} {st : Int} {en : Option Int} {dir : Int} {m : Nat} (h : RiPre f st en dir m) {d d' : Int} (h1 : st ≤ d) (h2 : d ≤ d') (he : ∀ e, en = some e → d' < e) (hs : dir = 0 ∨ sgn (f d) = dir) : sgn (f d') = sgn (f d) := by
  obtain ⟨a, b, c⟩ := h.mono h1 h2 he
  have hb := sgn_bounds (f d')
  rcases h.dirs with z | z | z
  · have := b z; rcases hs with q | q <;> omega
  · exact c z
  · have := a z; rcases hs with q | q <;> omega
/-- first_other may be asked -/
theorem RiPre.fo {f : Int → Int} {st : Int} {en : Option Int} {dir : Int} {m : Nat} (h : RiPre f st en dir m) {d : Int} (h1 : st ≤ d) (he : ∀ e, en = some e → d < e) (hT : en = none → ∀ T : Int, (∀ d, T ≤ d → sgn (f d) = dir) → st < T → d ≤ T) (h0 : dir ≠ 0) (hs : sgn (f d) ≠ dir) :
    FoPre (fun d => sgn (f d)) (sgn (f d)) d en m := by
  refine ⟨rfl, by have := h.st0; omega, fun d1 d2 g1 g2 g3 g4 => ?_, fun e q => ⟨he e q, (h.fin e q).2⟩, fun q => ?_⟩
  · have g5 : ∀ e, en = some e → d1 < e := fun e q => by have := g3 e q; omega
    obtain ⟨a, b, _⟩ := h.mono h1 g1 g5
    obtain ⟨a', b', _⟩ := h.mono (d := d1) (by omega) g2 g3
    have g4 : sgn (f d1) ≠ sgn (f d) := g4
    show sgn (f d2) ≠ sgn (f d)
    rcases h.dirs with z | z | z
    · have := b z; have := b' z; omega
    · exact absurd z h0
    · have := a z; have := a' z; omega
  · obtain ⟨T, t1, t2, t3⟩ := h.far
    have t3 := t3 q h0
    refine ⟨T, ?_, t2, fun d' hd => ?_⟩
    · have := hT q T t3 t1
      by_cases e : d = T
      · exact absurd (e ▸ t3 T (Int.le_refl _)) hs
      · omega
    · show sgn (f d') ≠ sgn (f d)
      rw [t3 d' hd]
      exact fun z => hs z.symm
section
variable {P : Program} {w : World} {K : PySem.W.Frag} {mg : Str → Option Value} {base : Heap}
/-! ### runs_in -/
def spRunsIn (C : Addr) : Sp := fun vs H Q _ => ∃ (p : Addr) (r : List Int) (st : Int) (en : Option Int) (dir : Int) (n m : Nat), vs = [.ref p, .int st, enV en, .int dir] ∧ PolyAt C H p r ∧ Bd n r ∧ r.length ≤ 20 ∧ n ≤ 2000 ∧ m ≤ 1900 ∧
  RiPre (ev r) st en dir m ∧ ∀ (H' : Hp) (l : Addr) (L : List (Int × Int)), Same H H' → H l = none → RunsAt H' l L → Seg (fun d => sgn (ev r d)) st en L → L.length ≤ 3 → Q (.ref l) H'
abbrev nRunsIn : List Str := ["polynomial", "start", "end", "direction", "found", "place", "sign", "following"]
theorem scRunsIn : FnScope nRunsIn ["polynomial", "start", "end", "direction"] (defScope sRunsIn) := ⟨rfl, rfl, rfl, by decide +kernel, rfl, by decide +kernel, by decide +kernel⟩
/-- the state of the loop: the place to be looked at, or none -/
def RiSt (g : Int → Int) (st : Int) (en : Option Int) (dir : Int) (T : Int) (L : List (Int × Int)) (mm : Nat) : Option Int → Prop
  | none => Seg g st en L ∧ L.length ≤ 3
  | some d => st ≤ d ∧ (∀ e, en = some e → d < e) ∧ (en = none → d ≤ T) ∧ ((L = [] ∧ d = st) ∨ Seg g st (some d) L) ∧ (mm : Int) = 2 - dir * g d ∧ (L.length : Int) ≤ 1 + dir * g d
end
end S75

namespace S75
open PySem L2 SR
theorem Seg.up {g : Int → Int} {st d : Int} {e : Option Int} {L : List (Int × Int)} {v : Int} (h : (L = [] ∧ d = st) ∨ Seg g st (some d) L) (hm : ∀ x, e = some x → d < x) (hv : ∀ d', d ≤ d' → (∀ x, e = some x → d' < x) → g d' = v) : Seg g st e (L ++ [(d, v)]) := by
  rcases h with ⟨rfl, rfl⟩ | h
  · exact ⟨rfl, hm, hv⟩
  · exact h.snoc hm hv
theorem dir_lt {f : Int → Int} {st : Int} {en : Option Int} {dir : Int} {m : Nat} (h : RiPre f st en dir m) {d d' : Int} (h1 : st ≤ d) (h2 : d ≤ d') (he : ∀ e, en = some e → d' < e) (h0 : dir ≠ 0) (hne : sgn (f d') ≠ sgn (f d)) : dir * sgn (f d) + 1 ≤ dir * sgn (f d') := by
  obtain ⟨a, b, c⟩ := h.mono h1 h2 he
  rcases h.dirs with z | z | z
  · have := b z; subst z; omega
  · exact absurd z h0
  · have := a z; subst z; omega
theorem dir_bd {f : Int → Int} {st : Int} {en : Option Int} {dir : Int} {m : Nat} (h : RiPre f st en dir m) (d : Int) : -1 ≤ dir * sgn (f d) ∧ dir * sgn (f d) ≤ 1 := by
  have hb := sgn_bounds (f d)
  rcases h.dirs with z | z | z <;> subst z <;> omega
section
variable {P : Program} {w : World} {K : PySem.W.Frag} {mg : Str → Option Value} {base : Heap}
theorem ok_runsIn {f C : Addr} {fd : FuncData} (F : Fun K "runs_in" "runs_in" sRunsIn f fd) (DS : Df P w K mg base "sign_at" ["polynomial", "d"] 3 (spSignAt C)) (DF : Df P w K mg base "first_other" ["polynomial", "sign", "start", "end"] 4 (spFirst C)) :
    FnOk P w K mg base CX0 5 f fd ["polynomial", "start", "end", "direction"] (spRunsIn C) := by
  refine F.ok scRunsIn (fun vs H Q E h => ?_) (fun cdv A outer s H vs Q E hr h => ?_)
  · obtain ⟨p, r, st, en, dir, n, m, rfl, _⟩ := h
    rfl
  · obtain ⟨p, r, st, en, dir, n, m, rfl, hp, hn, hl, ln, lm, pre, q⟩ := h
    refine ⟨_, pss_cons (ps_par (i := 4) (j := 5) (by rfl) scRunsIn.nd rfl rfl (by decide) rfl rfl (pa_cons (pe_lst pa_nil) (pa_cons (pv 1) pa_nil)) (by rfl))
      (pss_cons (ps_while PassesOwn.never (pt_cmpR op_notN (pv 5) pe_non (nomark _))
        (pss_cons (ps_set (i := 6) scRunsIn.nd rfl (Or.inl rfl) (pe_df DS (hr.mono (by decide)) (by rfl) (pa_cons (pv 0) (pa_cons (pv 5) pa_nil))))
        (pss_cons (ps_expr (pe_bm PySem.F.plainAttrs_list PySem.F.slot_list_append PySem.F.type_list_append mt_append (pv 4) (pa_cons (pe_tup (pa_cons (pv 5) (pa_cons (pv 6) pa_nil))) pa_nil)))
        (pss_cons (ps_set (i := 7) scRunsIn.nd rfl (Or.inl rfl) pe_non)
        (pss_cons (ps_if (PW.pt (pw_and (pt_cmpR op_ne (pv 3) pe_int (nomark _)) (pw_and1 (pt_cmpR op_ne (pv 6) (pv 3) (nomark _)))))
          (pss_one (ps_set (i := 7) scRunsIn.nd rfl (Or.inl rfl) (pe_df DF hr (by rfl) (pa_cons (pv 0) (pa_cons (pv 6) (pa_cons (pv 5) (pa_cons (pv 2) pa_nil))))))) pss_nil)
        (pss_one (ps_set (i := 5) scRunsIn.nd rfl (Or.inl rfl) (pe_ifExp (PW.pt (pw_and (pt_cmpR op_notN (pv 7) pe_non (nomark _)) (pw_and1 (pt_cmpR (op_neD hr.units) (pv 7) (pv 2) (nomark _))))) (pv 7) pe_non))))))))
      (pss_one (ps_ret (pv 4)))), ?_⟩
    obtain ⟨T, hT1, hT2, hT3⟩ := pre.far
    refine ⟨Nat.zero_le _, fun l hl0 => ?_⟩
    refine ⟨_, rfl, _, _, rfl, ?_⟩
    have db := dir_bd pre
    refine ⟨fun mm σ H' => ∃ (pl : Option Int) (L : List (Int × Int)) (v6 v7 : Option V), σ = [some (.ref p), some (.int st), some (enV en), some (.int dir), some (.ref l), some (enV pl), v6, v7] ∧ Same H H' ∧ RunsAt H' l L ∧ RiSt (fun d => sgn (ev r d)) st en dir T L mm pl,
      ⟨(2 - dir * sgn (ev r st)).toNat, some st, [], none, none, rfl, sNew (Same.refl H) hl0, ⟨[], upd_same, trivial⟩, Int.le_refl _, fun e he => (pre.fin e he).1, fun _ => by omega, .inl ⟨rfl, rfl⟩, by have := db st; show ((2 - dir * sgn (ev r st)).toNat : Int) = 2 - dir * sgn (ev r st); omega, by have := db st; show ((([] : List (Int × Int)).length : Nat) : Int) ≤ 1 + dir * sgn (ev r st); simp only [List.length_nil]; omega⟩, ?_⟩
    rintro mm σ H1 ⟨pl, L, v6, v7, rfl, s1, hL, hst⟩
    refine ⟨_, rfl, rfl, _, rfl, ?_⟩
    cases pl with
    | none =>
      refine iteF ?_
      exact ⟨_, rfl, q H1 l L s1 hl0 hL hst.1 hst.2⟩
    | some d =>
      refine iteT ?_
      obtain ⟨g1, g2, g3, g4, g5, g6⟩ := hst
      have g5 : (mm : Int) = 2 - dir * sgn (ev r d) := g5
      have g6 : (L.length : Int) ≤ 1 + dir * sgn (ev r d) := g6
      have dbd := db d
      have st0 := pre.st0
      have hdm : d.natAbs < 2 ^ m := by
        cases hen : en with
        | none => have := g3 hen; omega
        | some e => have := g2 e hen; have := (pre.fin e hen).2; omega
      refine ⟨fun σ' H' => ∃ (m' : Nat) (pl : Option Int) (L : List (Int × Int)) (v6 v7 : Option V), m' < mm ∧ σ' = [some (.ref p), some (.int st), some (enV en), some (.int dir), some (.ref l), some (enV pl), v6, v7] ∧ Same H H' ∧ RunsAt H' l L ∧ RiSt (fun d => sgn (ev r d)) st en dir T L m' pl, fun σ' H' ⟨m', pl, L, v6, v7, c0, c1⟩ => ⟨m', c0, pl, L, v6, v7, c1⟩, ?_⟩
      refine ⟨_, rfl, _, rfl, p, r, d, n, m, rfl, hp.same s1, hn, hdm, hl, ln, by omega, fun H2 s2 => ?_⟩
      obtain ⟨acc, a1, a2⟩ := hL.same s2
      refine ⟨_, rfl, .inl ⟨rfl, _, SqL.of a1⟩, _, rfl, _, rfl, (by show 2 ≤ sizeLine; decide), fun tp htp => ?_⟩
      refine ⟨l, _, _, rfl, rfl, old a1 htp, ?_, ?_⟩
      · rw [a2.len]; exact lt_line (by omega)
      have s3 := sNew (o := .tup [V.int d, V.int (sgn (ev r d))]) (Same.trans s1 s2) htp
      have ntl : tp ≠ l := fun e => by rw [e, a1] at htp; cases htp
      have hL3 : RunsAt (upd (upd H2 tp (.tup [V.int d, V.int (sgn (ev r d))])) l (.lst (acc ++ [V.ref tp]))) l (L ++ [(d, sgn (ev r d))]) := by
        refine ⟨_, upd_same, Tups.append (tups_but (fun b o hb e => by rw [upd_ne hb]; exact old e htp) a1 a2) (Tups.one (by rw [upd_ne ntl, upd_same]))⟩
      have s4 : Same H (upd (upd H2 tp (.tup [V.int d, V.int (sgn (ev r d))])) l (.lst (acc ++ [V.ref tp]))) := sPut s3 hl0
      rw [show enV (some d) = V.int d from rfl]
      generalize upd (upd H2 tp (.tup [V.int d, V.int (sgn (ev r d))])) l (.lst (acc ++ [V.ref tp])) = H5 at hL3 s4 ⊢
      refine ⟨_, rfl, rfl, _, rfl, ?_⟩
      by_cases hd0 : dir = 0
      · -- no direction
        rw [decide_eq_true (congrArg V.int hd0)]
        refine iteF ?_
        refine ⟨_, rfl, rfl, _, rfl, ?_⟩
        refine iteF ?_
        exact ⟨0, none, _, _, _, by omega, rfl, s4, hL3, Seg.up g4 g2 (fun d' h1 h2 => pre.stays g1 h1 h2 (.inl hd0)), by rw [List.length_append]; simp only [List.length_cons, List.length_nil]; omega⟩
      · rw [decide_eq_false (fun z => hd0 (V.int.inj z))]
        refine iteT ?_
        refine ⟨_, rfl, _, rfl, rfl, _, rfl, ?_⟩
        by_cases hs : sgn (ev r d) = dir
        · rw [decide_eq_true (congrArg V.int hs)]
          refine iteF ?_
          refine ⟨_, rfl, rfl, _, rfl, ?_⟩
          refine iteF ?_
          exact ⟨0, none, _, _, _, by omega, rfl, s4, hL3, Seg.up g4 g2 (fun d' h1 h2 => pre.stays g1 h1 h2 (.inr hs)), by rw [List.length_append]; simp only [List.length_cons, List.length_nil]; omega⟩
        · rw [decide_eq_false (fun z => hs (V.int.inj z))]
          refine iteT ?_
          have hfo := pre.fo (d := d) g1 g2 (fun z T' t1 t2 => ?_) hd0 hs
          · refine ⟨_, rfl, _, rfl, _, rfl, _, rfl, p, r, _, d, en, n, m, rfl, hp.same s4, hn, hl, ln, lm, hfo, fun H6 h s6 k1 k2 k3 k4 => ?_⟩
            refine ⟨_, rfl, rfl, _, rfl, ?_⟩
            refine iteT ?_
            refine ⟨_, rfl, _, rfl, _, _, .int h, dp_en en, sh_int h, sh_en en, _, rfl, ?_⟩
            rw [eqv_en]
            by_cases he : en = some h
            · rw [decide_eq_true he]
              refine iteF ?_
              refine ⟨0, none, _, _, _, by omega, rfl, Same.trans s4 s6, hL3.same s6, ?_, by rw [List.length_append]; simp only [List.length_cons, List.length_nil]; omega⟩
              exact Seg.up g4 g2 (fun d' h1 h2 => k3 d' h1 (h2 h he))
            · rw [decide_eq_false he]
              refine iteT ?_
              have hlt : ∀ e, en = some e → h < e := fun e q' => by
                have := k2 e q'
                by_cases z : h = e
                · exact absurd (z ▸ q') he
                · omega
              have hne := k4 hlt
              have hdl := dir_lt pre (d := d) (d' := h) g1 (by omega) hlt hd0 hne
              refine ⟨_, rfl, (2 - dir * sgn (ev r h)).toNat, some h, _, _, _, by have := db h; omega, rfl, Same.trans s4 s6, hL3.same s6, by omega, hlt, fun z => ?_, ?_, by have := db h; show ((2 - dir * sgn (ev r h)).toNat : Int) = 2 - dir * sgn (ev r h); omega, ?_⟩
              · have t3 := hT3 z hd0
                by_cases zz : h ≤ T
                · exact zz
                · have := k3 T (by have := g3 z; omega) (by omega)
                  rw [t3 T (Int.le_refl _)] at this
                  exact absurd this.symm hs
              · exact .inr (Seg.up g4 (fun x hx => by cases hx; omega) (fun d' h1 h2 => k3 d' h1 (h2 h rfl)))
              · show ((L ++ [(d, sgn (ev r d))]).length : Int) ≤ 1 + dir * sgn (ev r h)
                rw [List.length_append]; simp only [List.length_cons, List.length_nil]; omega
          · by_cases zz : d ≤ T'
            · exact zz
            · have h5 := (pre.mono (d := T') (d' := d) (by omega) (by omega) g2)
              have h6 := t1 T' (Int.le_refl _)
              have h7 := t1 d (by omega)
              exact absurd h7 hs
end
end S75

namespace S75
open PySem L2 SR
theorem pow2_lt (k : Nat) : ((2 ^ k : Nat) : Int) + 3 < ((2 ^ (k + 3) : Nat) : Int) := by
  have h1 : 2 ^ (k + 3) = 2 ^ k * 8 := by rw [Nat.pow_add]
  have h2 : 1 ≤ 2 ^ k := Nat.pos_of_ne_zero (by simp)
  rw [h1]
  generalize 2 ^ k = N at h2 ⊢
  omega
theorem nat_small {x N M : Int} {k : Nat} (h0 : 0 ≤ x) (h1 : x ≤ N) (h2 : N < M) (h3 : M = ((2 ^ k : Nat) : Int)) : x.natAbs < 2 ^ k := by
  omega
theorem ri_of {r c : List Int} {k : Nat} (hr : Bd k r) (hc : Bd k c) (hstep : ∀ x, ev c x = ev r (x + 1) - ev r x) {L : List (Int × Int)} (hL : IsRuns (fun d => sgn (ev c d)) 1 L) {i : Nat} {p : Int × Int} (hp : L[i]? = some p) :
    RiPre (ev r) p.1 (L[i + 1]?.map (·.1)) p.2 (k + 3) := by
  obtain ⟨a1, a2, a3⟩ := hL.at hp
  have near := hL.near hc (List.mem_of_getElem? hp)
  have hpw := pow2_lt k
  have hN0 : (0 : Int) ≤ ((2 ^ k : Nat) : Int) := Int.natCast_nonneg _
  have hst : ∀ d, p.1 ≤ d → (∀ e, L[i + 1]?.map (·.1) = some e → d < e) → sgn (ev r (d + 1) - ev r d) = p.2 := fun d hd he => by
    rw [← hstep]
    exact a3 d hd (fun q hq => he q.1 (by rw [hq]; rfl))
  refine ⟨by omega, ?_, fun e he => ?_, fun d hd he => hst d hd (fun e q => by have := he e q; omega), ?_⟩
  · have h1 := hst p.1 (Int.le_refl _) (fun e he => ?_)
    · rcases sgn_cases (ev r (p.1 + 1) - ev r p.1) with ⟨_, b⟩ | ⟨_, b⟩ | ⟨_, b⟩ <;> omega
    · cases hq : L[i + 1]? with
      | none => rw [hq] at he; cases he
      | some q => rw [hq] at he; cases he; exact a2 q hq
  · cases hq : L[i + 1]? with
    | none => rw [hq] at he; cases he
    | some q =>
      rw [hq] at he
      have he : q.1 = e := Option.some.inj he
      subst he
      have n2 := hL.near hc (List.mem_of_getElem? hq)
      exact ⟨a2 q hq, nat_small (by omega) n2.2 (by omega) rfl⟩
  · obtain ⟨s, hs⟩ := right_sign hN0 hr.int
    refine ⟨((2 ^ k : Nat) : Int) + 2, by omega, nat_small (by omega) (Int.le_refl _) (by omega) rfl, fun hen h0 d hd => ?_⟩
    have e := far_sign (f := ev r) (s := s) (dir := p.2) (T := p.1) (T0 := ((2 ^ k : Nat) : Int) + 1) hs (fun d hd => hst d hd (fun e he => by rw [hen] at he; cases he)) h0
    rw [hs d (by omega), e]
/-! ### the chain of steps, the last one first -/
def Good (r : List Int) : Prop := Canon r ∧ Bd 1000 r ∧ r.length ≤ 8
def ChOk (C : Addr) (H : Hp) : List (Addr × List Int) → Prop
  | [] => False
  | [x] => PolyAt C H x.1 x.2 ∧ Good x.2
  | x :: y :: rest => PolyAt C H x.1 x.2 ∧ Good x.2 ∧ (∀ z, ev x.2 z = ev y.2 (z + 1) - ev y.2 z) ∧ ChOk C H (y :: rest)
theorem ChOk.same {C : Addr} {H H' : Hp} (s : Same H H') : ∀ {rv : List (Addr × List Int)}, ChOk C H rv → ChOk C H' rv
  | [], h => h
  | [_], h => ⟨h.1.same s, h.2⟩
  | _ :: _ :: _, h => ⟨h.1.same s, h.2.1, h.2.2.1, ChOk.same s h.2.2.2⟩
theorem ChOk.at {C : Addr} {H : Hp} : ∀ {rv : List (Addr × List Int)}, ChOk C H rv → ∀ {i : Nat} {x : Addr × List Int}, rv[i]? = some x → PolyAt C H x.1 x.2 ∧ Good x.2 ∧ ∀ y, rv[i + 1]? = some y → ∀ z, ev x.2 z = ev y.2 (z + 1) - ev y.2 z
  | [], h, _, _, _ => h.elim
  | [_], h, 0, x, e => by cases e; exact ⟨h.1, h.2, fun y z => by simp at z⟩
  | [_], h, i + 1, x, e => by simp at e
  | _ :: _ :: _, h, 0, x, e => by cases e; exact ⟨h.1, h.2.1, fun y z => by cases z; exact h.2.2.1⟩
  | _ :: _ :: _, h, i + 1, x, e => ChOk.at h.2.2.2 (i := i) e
def fA : Addr × List Int → V := fun x => .ref x.1
theorem back_rv (x : Addr × List Int) (rest : List (Addr × List Int)) : ((x :: rest).reverse.map fA).dropLast.reverse = rest.map fA := by
  rw [List.reverse_cons, List.map_append]
  simp [fA]
theorem last_rv (x : Addr × List Int) (rest : List (Addr × List Int)) : (x :: rest).reverse.map fA = rest.reverse.map fA ++ [.ref x.1] := by
  rw [List.reverse_cons, List.map_append]; rfl
theorem ext_runs {H H' : Hp} {D : Addr} {F : List (Int × Int)} (s : ∀ b o, b ≠ D → H b = some o → H' b = some o) {acc : List V} (h1 : H D = some (.lst acc)) (h2 : Tups H acc F) {ws : List V} {M : List (Int × Int)} (h3 : Tups H ws M) (h4 : H' D = some (.lst (acc ++ ws))) : RunsAt H' D (F ++ M) :=
  ⟨_, h4, Tups.append (tups_but s h1 h2) (tups_but s h1 h3)⟩
end S75

namespace S75
open PySem L2 SR
theorem oneSign_none {r : List Int} (h : oneSign r = none) : True := trivial
theorem oneSign_some {r : List Int} {v : Int} (hc : Canon r) (h : oneSign r = some v) : IsRuns (fun d => sgn (ev r d)) 1 [(1, v)] := by
  unfold oneSign at h
  by_cases hp : r.any (fun a => decide (a > 0)) = true
  · rw [if_pos hp] at h
    by_cases hn : r.any (fun a => decide (a < 0)) = true
    · rw [if_pos hn] at h; cases h
    · rw [if_neg hn] at h
      cases h
      obtain ⟨a, ha, hq⟩ := List.any_eq_true.mp hp
      refine one_pos (fun b hb => ?_) ⟨a, ha, by simpa using hq⟩
      by_cases hb2 : b < 0
      · exact absurd (List.any_eq_true.mpr ⟨b, hb, by simpa using hb2⟩) hn
      · omega
  · rw [if_neg hp] at h
    by_cases hn : r = []
    · rw [if_pos hn] at h
      cases h
      subst hn
      exact one_zero
    · rw [if_neg hn] at h
      cases h
      refine one_neg hc hn (fun b hb => ?_)
      by_cases hb2 : b > 0
      · exact absurd (List.any_eq_true.mpr ⟨b, hb, by simpa using hb2⟩) hp
      · omega
theorem pow3 {i : Nat} (h : i ≤ 8) : 3 ^ i ≤ 6561 := Nat.le_trans (Nat.pow_le_pow_right (by decide) h) (by decide)
section
variable {P : Program} {w : World} {K : PySem.W.Frag} {mg : Str → Option Value} {base : Heap}
/-! ### sign_runs -/
def spSignRuns (C : Addr) : Sp := fun vs H Q _ => ∃ (p : Addr) (r : List Int), vs = [.ref p] ∧ PolyAt C H p r ∧ Canon r ∧ Bd 400 r ∧ r.length ≤ 8 ∧
  ∀ (H' : Hp) (l : Addr) (L : List (Int × Int)), Same H H' → H l = none → RunsAt H' l L → IsRuns (fun d => sgn (ev r d)) 1 L → L.length ≤ 50000 → Q (.ref l) H'
abbrev nSR : List Str := ["polynomial", "sign", "chain", "runs", "one", "found", "number", "start", "end"]
theorem scSR : FnScope nSR ["polynomial"] (defScope sSignRuns) := ⟨rfl, rfl, rfl, by decide +kernel, rfl, by decide +kernel, by decide +kernel⟩
theorem ok_signRuns {f C : Addr} {fd : FuncData} (F : Fun K "sign_runs" "sign_runs" sSignRuns f fd) (T : Bn mg) (N : PCl P w K mg base C) (DO : Df P w K mg base "one_sign" ["row"] 1 (spOne K)) (DR : Df P w K mg base "row_of" ["value"] 2 (spCoef C))
    (DSt : Df P w K mg base "step_of" ["polynomial"] 5 (spStep C)) (DS : Df P w K mg base "sign_at" ["polynomial", "d"] 3 (spSignAt C)) (DI : Df P w K mg base "runs_in" ["polynomial", "start", "end", "direction"] 5 (spRunsIn C)) (DJ : Df P w K mg base "joined_runs" ["runs"] 1 spJoined) :
    FnOk P w K mg base CX0 6 f fd ["polynomial"] (spSignRuns C) := by
  refine F.ok scSR (fun vs H Q E h => ?_) (fun cdv A outer s H vs Q E hr h => ?_)
  · obtain ⟨p, r, rfl, _⟩ := h
    rfl
  · obtain ⟨p, r, rfl, hp, hcan, hbd, hlen, q⟩ := h
    obtain ⟨pp, pg, pfd, pprop, pb, PF⟩ := N.deg
    refine ⟨_, pss_cons (ps_set (i := 1) scSR.nd rfl (Or.inl rfl) (pe_df DO (hr.mono (by decide)) (by rfl) (pa_cons (pe_df DR (hr.mono (by decide)) (by rfl) (pa_cons (pv 0) pa_nil)) pa_nil)))
      (pss_cons (ps_if (pt_cmpR op_notN (pv 1) pe_non (nomark _)) (pss_one (ps_ret (pe_lst (pa_cons (pe_tup (pa_cons pe_int (pa_cons (pv 1) pa_nil))) pa_nil)))) pss_nil)
      (pss_cons (ps_set (i := 2) scSR.nd rfl (Or.inl rfl) (pe_lst (pa_cons (pv 0) pa_nil)))
      (pss_cons (ps_while PassesOwn.never (pt_cmpR op_gt (pe_prop (pe_ix ix_list (pv 2) (pe_un un_neg pe_int) (fun _ _ => rfl)) N.pm.pc.cl pprop PF (hr.mono (by decide)) pb .nil pass0 rfl) pe_int (nomark _))
        (pss_one (ps_expr (pe_bm PySem.F.plainAttrs_list PySem.F.slot_list_append PySem.F.type_list_append mt_append (pv 2) (pa_cons (pe_df DSt hr (by rfl) (pa_cons (pe_ix ix_list (pv 2) (pe_un un_neg pe_int) (fun _ _ => rfl)) pa_nil)) pa_nil)))))
      (pss_cons (ps_set (i := 3) scSR.nd rfl (Or.inl rfl) (pe_lst (pa_cons (pe_tup (pa_cons pe_int (pa_cons (pe_df DS (hr.mono (by decide)) (by rfl) (pa_cons (pe_ix ix_list (pv 2) (pe_un un_neg pe_int) (fun _ _ => rfl)) (pa_cons pe_int pa_nil))) pa_nil))) pa_nil)))
      (pss_cons (ps_for PassesOwn.never rfl (pi_list (pe_back2 (pv 2))) (pg_name (i := 4) scSR.nd rfl (Or.inl rfl))
        (pss_cons (ps_set (i := 5) scSR.nd rfl (Or.inl rfl) (pe_lst pa_nil))
        (pss_cons (ps_for PassesOwn.never rfl (pi_enum (by rfl) T.enum (pa_cons (pv 3) pa_nil)) (pg_tup rfl (pgs_cons (pg_name (i := 6) scSR.nd rfl (Or.inl rfl)) (pgs_cons (pg_tup rfl (pgs_cons (pg_name (i := 7) scSR.nd rfl (Or.inl rfl)) (pgs_cons (pg_name (i := 1) scSR.nd rfl (Or.inl rfl)) pgs_nil))) pgs_nil)))
          (pss_cons (ps_set (i := 8) scSR.nd rfl (Or.inl rfl) (pe_ifExp (pt_cmpR op_lt (pe_op op_add (pv 6) pe_int) (pe_callB call_len_seq (by rfl) T.len PySem.boot_len (pa_cons (pv 3) pa_nil)) (nomark _))
            (pe_ix ix_tup (pe_ix ix_list (pv 3) (pe_op op_add (pv 6) pe_int) (fun _ _ => rfl)) pe_int (fun _ _ => rfl)) pe_non))
          (pss_one (ps_expr (pe_bm PySem.F.plainAttrs_list PySem.F.slot_list_extend PySem.F.type_list_extend mt_extend (pv 5) (pa_cons (pe_df DI hr (by rfl) (pa_cons (pv 4) (pa_cons (pv 7) (pa_cons (pv 8) (pa_cons (pv 1) pa_nil))))) pa_nil))))))
        (pss_one (ps_set (i := 3) scSR.nd rfl (Or.inl rfl) (pe_df DJ (hr.mono (by decide)) (by rfl) (pa_cons (pv 5) pa_nil)))))))
      (pss_one (ps_ret (pv 3)))))))), ?_⟩
    refine ⟨_, rfl, p, r, rfl, hp, fun t ht => ?_⟩
    refine ⟨t, r, rfl, .inl (.inl ht), by omega, fun H1 s1 => ?_⟩
    refine ⟨_, rfl, rfl, _, rfl, ?_⟩
    cases hos : oneSign r with
    | some v =>
      refine iteT ?_
      refine ⟨_, rfl, (by show 2 ≤ sizeLine; decide), fun tp htp => ?_⟩
      refine ⟨(by show 1 ≤ sizeLine; decide), fun l hl => ?_⟩
      have s2 := sNew (o := .tup [V.int 1, V.int v]) s1 htp
      have s3 := sNew (o := .lst [V.ref tp]) s2 hl
      refine q _ l [(1, v)] s3 (s2.free hl) ⟨_, upd_same, Tups.one (old upd_same hl)⟩ (oneSign_some hcan hos) (by show 1 ≤ 50000; decide)
    | none =>
      refine iteF ?_
      refine ⟨_, rfl, (by show 1 ≤ sizeLine; decide), fun lc hlc => ?_⟩
      have hgood : Good r := ⟨hcan, hbd.mono (by omega), hlen⟩
      have s2 := sNew (o := .lst [V.ref p]) s1 hlc
      refine ⟨fun mm σ H' => ∃ (x : Addr × List Int) (rest : List (Addr × List Int)), σ = [some (.ref p), some .non, some (.ref lc), none, none, none, none, none, none] ∧ mm = x.2.length ∧ Same H1 H' ∧ H' lc = some (.lst ((x :: rest).reverse.map fA)) ∧ ChOk C H' (x :: rest) ∧ (x :: rest).getLast? = some (p, r) ∧ Bd (400 + 60 * rest.length) x.2 ∧ x.2.length + rest.length ≤ 8,
        ⟨r.length, (p, r), [], rfl, rfl, sNew (Same.refl H1) hlc, upd_same, ⟨hp.same s2, hgood⟩, rfl, hbd, hlen⟩, ?_⟩
      rintro mm σ H2 ⟨x, rest, rfl, rfl, s3, hch, hok, hlast, hb, hle⟩
      have hch' := hch
      rw [last_rv] at hch'
      obtain ⟨hx1, hx2, hx3⟩ := hok.at (i := 0) rfl
      obtain ⟨dx, tx, hx4, hx5⟩ := id hx1
      refine ⟨_, rfl, _, rfl, lc, _, _, _, rfl, rfl, SqL.of hch', atI_lastV _ _, x.1, dx, _, rfl, hx4, x.1, x.2, rfl, hx1, ?_⟩
      refine ⟨_, _, rfl, rfl, _, rfl, ?_⟩
      by_cases hdeg : (x.2.length : Int) - 1 > 0
      · -- one more step
        rw [decide_eq_true hdeg]
        refine iteT ?_
        refine ⟨fun σ' H' => ∃ (x' : Addr × List Int) (rest' : List (Addr × List Int)), x'.2.length < x.2.length ∧ σ' = [some (.ref p), some .non, some (.ref lc), none, none, none, none, none, none] ∧ Same H1 H' ∧ H' lc = some (.lst ((x' :: rest').reverse.map fA)) ∧ ChOk C H' (x' :: rest') ∧ (x' :: rest').getLast? = some (p, r) ∧ Bd (400 + 60 * rest'.length) x'.2 ∧ x'.2.length + rest'.length ≤ 8, fun σ' H' ⟨x', rest', c0, c1, c2⟩ => ⟨_, c0, x', rest', c1, rfl, c2⟩, ?_⟩
        refine ⟨_, rfl, .inl ⟨rfl, _, SqL.of hch⟩, ?_⟩
        refine ⟨_, rfl, _, rfl, lc, _, _, _, rfl, rfl, SqL.of hch', atI_lastV _ _, x.1, x.2, 400 + 60 * rest.length, rfl, hx1, hb, by omega, hx2.2.2, fun H3 p3 c s4 hp3 hc hcc hev hbc => ?_⟩
        refine ⟨lc, _, _, rfl, rfl, s4 _ _ hch, ?_, ?_⟩
        · rw [List.length_map, List.length_reverse, List.length_cons]; exact lt_line (by omega)
        · have hcl : c.length < x.2.length := step_len hcc hev (by omega)
          have sb : Same H1 (upd H3 lc (.lst ((x :: rest).reverse.map fA ++ [V.ref p3]))) := sPut (Same.trans s3 s4) hlc
          have sok : ∀ b o, b ≠ lc → H3 b = some o → upd H3 lc (.lst ((x :: rest).reverse.map fA ++ [V.ref p3])) b = some o := fun b o hb e => by rw [upd_ne hb]; exact e
          have pk : ∀ {a : Addr} {u : List Int}, PolyAt C H3 a u → PolyAt C (upd H3 lc (.lst ((x :: rest).reverse.map fA ++ [V.ref p3]))) a u := fun {a u} ⟨d1, t1, e1, e2⟩ => by
            have hl3 := s4 _ _ hch
            exact ⟨d1, t1, sok _ _ (fun z => by rw [z, hl3] at e1; cases e1) e1, sok _ _ (fun z => by rw [z, hl3] at e2; cases e2) e2⟩
          have cok : ∀ {rv : List (Addr × List Int)}, ChOk C H3 rv → ChOk C (upd H3 lc (.lst ((x :: rest).reverse.map fA ++ [V.ref p3]))) rv := by
            intro rv
            induction rv with
            | nil => exact fun h => h
            | cons a b ih =>
              cases b with
              | nil => exact fun h => ⟨pk h.1, h.2⟩
              | cons c d => exact fun h => ⟨pk h.1, h.2.1, h.2.2.1, ih h.2.2.2⟩
          refine ⟨(p3, c), x :: rest, hcl, rfl, sb, ?_, ⟨pk hc, ⟨hcc, hbc.mono (by omega), by show c.length ≤ 8; omega⟩, hev, cok (hok.same s4)⟩, ?_, ?_, ?_⟩
          · rw [upd_same, last_rv (p3, c) (x :: rest)]
          · rw [List.getLast?_cons_cons]; exact hlast
          · exact hbc.mono (by simp only [List.length_cons]; omega)
          · simp only [List.length_cons]; omega
      · -- the chain is made
        rw [decide_eq_false hdeg]
        refine iteF ?_
        refine ⟨_, rfl, _, rfl, lc, _, _, _, rfl, rfl, SqL.of hch', atI_lastV _ _, x.1, x.2, 1, 1000, 2, rfl, hx1, hx2.2.1, by decide, by omega, by omega, by omega, fun H3 s4 => ?_⟩
        refine ⟨(by show 2 ≤ sizeLine; decide), fun tp htp => ?_⟩
        refine ⟨(by show 1 ≤ sizeLine; decide), fun lr hlr => ?_⟩
        have s5 := sNew (o := .lst [V.ref tp]) (sNew (o := .tup [V.int 1, V.int (sgn (ev x.2 1))]) s4 htp) hlr
        have hR0 : RunsAt (upd (upd H3 tp (.tup [V.int 1, V.int (sgn (ev x.2 1))])) lr (.lst [V.ref tp])) lr [(1, sgn (ev x.2 1))] := ⟨_, upd_same, Tups.one (old upd_same hlr)⟩
        have flr : H2 lr = none := (sNew (o := .tup [V.int 1, V.int (sgn (ev x.2 1))]) s4 htp).free hlr
        generalize upd (upd H3 tp (.tup [V.int 1, V.int (sgn (ev x.2 1))])) lr (.lst [V.ref tp]) = H4 at s5 hR0 ⊢
        have hok4 := hok.same s5
        refine ⟨_, rfl, lc, _, rfl, SqL.of (s5 _ _ hch), by rw [last_rv]; simp, fun lb hlb => ?_⟩
        rw [back_rv]
        have s6 := sNew (o := .lst (rest.map fA)) (Same.refl H4) hlb
        generalize hH5 : upd H4 lb (.lst (rest.map fA)) = H5 at s6 ⊢
        have hlb5 : H5 lb = some (.lst (rest.map fA)) := by rw [← hH5]; exact upd_same
        have hok5 := hok4.same s6
        have s05 : Same H H5 := Same.trans s1 (Same.trans s3 (Same.trans s5 s6))
        have f0lr : H lr = none := (Same.trans s1 s3).free flr
        refine ⟨lb, rfl, ⟨_, SqL.of hlb5⟩, for_it (walk_list (K := K) (a := lb) (xs := rest.map fA)) (fun i σ H' => ∃ (lr : Addr) (L : List (Int × Int)) (y : Addr × List Int) (v1 v4 v5 v6 v7 v8 : Option V), σ = [some (.ref p), v1, some (.ref lc), some (.ref lr), v4, v5, v6, v7, v8] ∧ Same H5 H' ∧ RunsAt H' lr L ∧ H lr = none ∧ (x :: rest)[i]? = some y ∧ IsRuns (fun d => sgn (ev y.2 d)) 1 L ∧ L.length ≤ 3 ^ i)
          ⟨lr, _, x, _, _, _, _, _, _, rfl, Same.refl _, hR0.same s6, f0lr, rfl, short_runs (by omega), by show 1 ≤ 1; decide⟩ (fun i σ H' _ ⟨_, _, _, _, _, _, _, _, _, _, h, _⟩ => SqL.of (h _ _ hlb5)) ?_ ?_⟩
        · rintro i yv σ _ H6 hi ⟨lr, L, y, v1, v4, v5, v6, v7, v8, rfl, s7, hL, f0, hy, hRL, hLl⟩ ⟨rfl, hyv⟩
          obtain ⟨z, hz, rfl⟩ := map_get hyv
          have hi7 : i ≤ 7 := by
            have := (List.getElem?_eq_some_iff.mp hz).1
            omega
          obtain ⟨y1, y2, y3⟩ := hok5.at hy
          obtain ⟨z1, z2, z3⟩ := hok5.at (i := i + 1) (x := z) hz
          have hstep := y3 z hz
          have p3 := pow3 (i := i) (by omega)
          obtain ⟨lv, hl1, hl2⟩ := id hL
          have hlenL : lv.length = L.length := hl2.len
          refine ⟨Nat.zero_le _, fun lf hlf => ?_⟩
          have s8 := sNew (o := .lst []) (Same.refl H6) hlf
          refine ⟨_, rfl, lr, _, rfl, SqL.of (s8 _ _ hl1), ?_⟩
          refine for_it (walk_enum (K := K) (a := lr) (xs := lv)) (fun j σ H' => ∃ (F : List (Int × Int)) (v1 v6 v7 v8 : Option V), σ = [some (.ref p), v1, some (.ref lc), some (.ref lr), some (.ref z.1), some (.ref lf), v6, v7, v8] ∧ Same H6 H' ∧ RunsAt H' lf F ∧ ((j = 0 ∧ F = []) ∨ Seg (fun d => sgn (ev z.2 d)) 1 (L[j]?.map (·.1)) F) ∧ F.length ≤ 3 * j)
            ⟨[], _, _, _, _, rfl, s8, ⟨[], upd_same, trivial⟩, .inl ⟨rfl, rfl⟩, Nat.zero_le _⟩ (fun j σ H' _ ⟨_, _, _, _, _, _, h, _⟩ => SqL.of (h _ _ hl1)) ?_ ?_
          · rintro j xv σ H7 H8 hj ⟨FF, w1, w6, w7, w8, rfl, s9, hF, hseg, hFl⟩ ⟨TT, x1, x2, rfl, hTT, rfl, e1, e2⟩
            have e1 : x1 = V.int ((j : Nat) : Int) := (Option.some.inj e1).symm
            subst e1
            obtain ⟨pr, tr, hpr, rfl, htr⟩ := hl2.get e2
            have s10 := sNew (o := .tup [V.int ((j : Nat) : Int), V.ref tr]) s9 hTT
            refine ⟨TT, _, rfl, .inl (.inl upd_same), rfl, _, _, rfl, _, _, rfl, tr, _, rfl, .inl (.inl (s10 _ _ htr)), rfl, _, _, rfl, _, _, rfl, rfl, rfl, ?_⟩
            have ri := ri_of z2.2.1 y2.2.1 hstep hRL hpr
            have hF10 := hF.same (sNew (o := .tup [V.int ((j : Nat) : Int), V.ref tr]) (Same.refl H7) hTT)
            generalize upd H7 TT (.tup [V.int ((j : Nat) : Int), V.ref tr]) = H9 at s10 hF10 ⊢
            have fin : ∀ (H' : Hp) (l : Addr) (M : List (Int × Int)) , Same H9 H' → RunsAt H' l M → Seg (fun d => sgn (ev z.2 d)) pr.1 (L[j + 1]?.map (·.1)) M → M.length ≤ 3 → ∀ acc, H9 lf = some (.lst acc) → Tups H9 acc FF →
                ∃ ws, H' l = some (.lst ws) ∧ Tups H' ws M ∧ acc.length + ws.length ≤ sizeLine ∧ Same H6 (upd H' lf (.lst (acc ++ ws))) ∧ RunsAt (upd H' lf (.lst (acc ++ ws))) lf (FF ++ M) ∧ ((j + 1 = 0 ∧ FF ++ M = []) ∨ Seg (fun d => sgn (ev z.2 d)) 1 (L[j + 1]?.map (·.1)) (FF ++ M)) ∧ (FF ++ M).length ≤ 3 * (j + 1) := by
              intro H' l M sM hM hsg hMl acc ha1 ha2
              obtain ⟨ws, hw1, hw2⟩ := hM
              have hlj : j < L.length := (List.getElem?_eq_some_iff.mp hpr).1
              refine ⟨ws, hw1, hw2, ?_, sPut (Same.trans s10 sM) hlf, ext_runs (fun b o hb e => by rw [upd_ne hb]; exact e) (sM _ _ ha1) (ha2.same sM) hw2 upd_same, .inr ?_, ?_⟩
              · rw [ha2.len, hw2.len]; exact le_line (by omega)
              · rcases hseg with ⟨rfl, rfl⟩ | hseg
                · obtain ⟨v0, hv0⟩ := hRL.first
                  rw [hv0] at hpr
                  cases hpr
                  exact hsg
                · rw [hpr] at hseg
                  exact hseg.append hsg
              · rw [List.length_append]; omega
            obtain ⟨acc, ha1, ha2⟩ := id hF10
            refine ⟨_, rfl, _, _, rfl, rfl, _, rfl, lr, _, rfl, .inl (SqL.of (s10 _ _ hl1)), _, _, rfl, rfl, _, rfl, ?_⟩
            cases hnx : L[j + 1]? with
            | none =>
              have hge : ¬ ((j : Nat) : Int) + 1 < ((lv.length : Nat) : Int) := by
                have := List.getElem?_eq_none_iff.mp hnx
                omega
              rw [decide_eq_false hge]
              refine iteF ?_
              rw [hnx] at ri fin
              refine ⟨_, rfl, .inl ⟨rfl, _, SqL.of ha1⟩, _, rfl, _, rfl, _, rfl, _, rfl, z.1, z.2, pr.1, none, pr.2, 1000, 1003, rfl, z1.same (Same.trans s7 s10), z2.2.1, Nat.le_trans z2.2.2 (by decide), by omega, by omega, ri, fun H' l M sM _ hM hsg hMl => ?_⟩
              obtain ⟨ws, b1, b2, b3, b4, b5, b6, b7⟩ := fin H' l M sM hM hsg hMl acc ha1 ha2
              exact ⟨lf, l, acc, ws, rfl, rfl, sM _ _ ha1, b1, b3, _, _, _, _, _, rfl, b4, b5, b6, b7⟩
            | some nx =>
              have hlt : ((j : Nat) : Int) + 1 < ((lv.length : Nat) : Int) := by
                have := (List.getElem?_eq_some_iff.mp hnx).1
                omega
              rw [decide_eq_true hlt]
              refine iteT ?_
              rw [hnx] at ri fin
              obtain ⟨tn, htn1, htn2⟩ : ∃ tn, lv[j + 1]? = some (V.ref tn) ∧ H6 tn = some (.tup [V.int nx.1, V.int nx.2]) := by
                obtain ⟨hb, _⟩ := List.getElem?_eq_some_iff.mp hnx
                have hb2 : j + 1 < lv.length := by omega
                obtain ⟨p', t', c1, c2, c3⟩ := hl2.get (List.getElem?_eq_getElem hb2)
                rw [hnx] at c1
                cases c1
                exact ⟨t', by rw [List.getElem?_eq_getElem hb2, c2], c3⟩
              refine ⟨_, rfl, _, rfl, _, _, rfl, rfl, lr, _, _, _, rfl, rfl, SqL.of (s10 _ _ hl1), at_of (j := j + 1) (by omega) htn1, tn, _, _, _, rfl, rfl, .inl (.inl (s10 _ _ htn2)), at_of (j := 0) rfl rfl, ?_⟩
              refine ⟨_, rfl, .inl ⟨rfl, _, SqL.of ha1⟩, _, rfl, _, rfl, _, rfl, _, rfl, z.1, z.2, pr.1, some nx.1, pr.2, 1000, 1003, rfl, z1.same (Same.trans s7 s10), z2.2.1, Nat.le_trans z2.2.2 (by decide), by omega, by omega, ri, fun H' l M sM _ hM hsg hMl => ?_⟩
              obtain ⟨ws, b1, b2, b3, b4, b5, b6, b7⟩ := fin H' l M sM hM hsg hMl acc ha1 ha2
              exact ⟨lf, l, acc, ws, rfl, rfl, sM _ _ ha1, b1, b3, _, _, _, _, _, rfl, b4, b5, b6, b7⟩
          · rintro σ H7 ⟨FF, w1, w6, w7, w8, rfl, s9, hF, hseg, hFl⟩
            have hseg' : Seg (fun d => sgn (ev z.2 d)) 1 none FF := by
              have hne := List.length_pos_iff.mpr hRL.ne
              rcases hseg with ⟨e, _⟩ | hseg
              · omega
              · rw [hlenL, List.getElem?_eq_none (Nat.le_refl _)] at hseg
                exact hseg
            have hF3 : FF.length ≤ 3 * 3 ^ i := by
              rw [hlenL] at hFl
              omega
            refine ⟨_, rfl, lf, FF, rfl, hF, by omega, fun H8 l8 s11 hl8 hR8 => ?_⟩
            refine ⟨l8, joined FF, z, _, _, _, _, _, _, rfl, Same.trans s7 (Same.trans s9 s11), hR8, (Same.trans s05 (Same.trans s7 s9)).free hl8, hz, joined_runs hseg', ?_⟩
            have := join_len [] FF
            simp only [List.length_nil] at this
            show (joined FF).length ≤ 3 ^ (i + 1)
            unfold joined
            rw [Nat.pow_succ]
            omega
        · rintro σ H6 ⟨lr, L, y, v1, v4, v5, v6, v7, v8, rfl, s7, hL, f0, hy, hRL, hLl⟩
          rw [List.length_map] at hy hLl
          have ey : y = (p, r) := by
            rw [List.getLast?_eq_getElem?] at hlast
            have e : (x :: rest).length - 1 = rest.length := by simp
            rw [e, hy] at hlast
            exact Option.some.inj hlast
          subst ey
          have p3 := pow3 (i := rest.length) (by omega)
          exact ⟨_, rfl, q H6 lr L (Same.trans s05 s7) f0 hL hRL (by omega)⟩
end
end S75

namespace S75
open PySem L2 SR
/-- the two numbers that draw -/
def PotAt (H : Hp) (l : Addr) : Prop := ∃ x y : Int, H l = some (.lst [.int x, .int y]) ∧ 0 ≤ x ∧ 0 ≤ y ∧ y < 4294967296
theorem SameX.same {x : Addr} {H H' H2 : Hp} (a : SameX x H H') (b : Same H' H2) : SameX x H H2 := fun c o hc e => b c o (a c o hc e)
theorem SameX.trans {x : Addr} {H H' H2 : Hp} (a : SameX x H H') (b : SameX x H' H2) : SameX x H H2 := fun c o hc e => b c o hc (a c o hc e)
theorem SameX.of {x : Addr} {H H' : Hp} (a : Same H H') : SameX x H H' := fun c o _ e => a c o e
theorem SameX.put {x : Addr} {H H' : Hp} {o : HO} (a : SameX x H H') : SameX x H (upd H' x o) := fun c p hc e => by rw [upd_ne hc]; exact a c p hc e
theorem SameX.free {x : Addr} {H H' : Hp} (a : SameX x H H') {l : Addr} (hl : l ≠ x) (h : H' l = none) : H l = none := by
  cases e : H l with
  | none => rfl
  | some o => rw [a l o hl e] at h; cases h
section
variable {P : Program} {w : World} {K : PySem.W.Frag} {mg : Str → Option Value} {base : Heap}
/-! ### _law_pot -/
def spPot (K : PySem.W.Frag) : Sp := fun vs H Q _ => ∃ (a : Addr) (ns : List Int) (k : Nat), vs = [.ref a, .int k] ∧ SqL K H a (ns.map V.int) ∧ k < 4 ∧ ns.length ≤ 1000 ∧ ∀ H' l, Same H H' → H l = none → PotAt H' l → Q (.ref l) H'
abbrev nPot : List Str := ["_law_script", "_law_k", "_law_cell"]
theorem scPot : FnScope nPot ["_law_script", "_law_k"] (defScope sPot) := ⟨rfl, rfl, rfl, by decide +kernel, rfl, by decide +kernel, by decide +kernel⟩
theorem ok_pot {f : Addr} {fd : FuncData} (F : Fun K "_law_pot" "_law_pot" sPot f fd) (T : Bn mg) : FnOk P w K mg base CX0 1 f fd ["_law_script", "_law_k"] (spPot K) := by
  refine F.ok scPot (fun vs H Q E h => ?_) (fun cdv A outer s H vs Q E hr h => ?_)
  · obtain ⟨a, ns, k, rfl, _⟩ := h
    rfl
  · obtain ⟨a, ns, k, rfl, ha, hk, hl, q⟩ := h
    refine ⟨_, pss_cons (ps_set (i := 2) scPot.nd rfl (Or.inl rfl) (pe_ifExp (pt_cmpR op_lt (pv 1) (pe_callB call_len_seq (by rfl) T.len PySem.boot_len (pa_cons (pv 0) pa_nil)) (nomark _))
        (pe_callB call_abs (by rfl) T.abs (by decide +kernel) (pa_cons (pe_ix ix_list (pv 0) (pv 1) (fun _ _ => rfl)) pa_nil)) (pe_op op_add (pe_op op_mul pe_int (pv 1)) pe_int)))
      (pss_one (ps_ret (pe_lst (pa_cons (pe_callB (call_max2 rfl) (by rfl) T.max (by decide +kernel) (pa_cons pe_int (pa_cons (pe_op op_sub (pv 2) (pe_op op_pow pe_int pe_int)) pa_nil)))
        (pa_cons (pe_op op_add (pe_op op_mod (pe_op op_mulW (pe_callTy call_int1 (by rfl) T.int (by decide +kernel) (pa_cons (pe_op op_add (pe_op op_add (pe_op op_mod (pe_callTy call_int1 (by rfl) T.int (by decide +kernel) (pa_cons (pv 2) pa_nil)) pe_int) (pe_op op_mul pe_int (pv 1))) pe_int) pa_nil))
          (pe_op op_pow (pe_op op_add (pe_op op_mul pe_int (pv 1)) pe_int) pe_int)) pe_int) pe_int) pa_nil))))), ?_⟩
    refine ⟨_, rfl, _, rfl, a, _, rfl, .inl ha, _, _, rfl, rfl, _, rfl, ?_⟩
    have rest : ∀ c : Int, 0 ≤ c → ∀ (R : VK), (∀ x y : Int, 0 ≤ x → 0 ≤ y → y < 4294967296 → ∀ l, H l = none → R (.ref l) (upd H l (.lst [.int x, .int y]))) →
        (tLst (tCons (tCB (fun xs H Q => ∃ i j, xs = [.int i, .int j] ∧ Q (.int (if j > i then j else i)) H) (tCons (tC (.int 0)) (tCons (tOp (rI0 fun i j => .int (i - j)) (tVar 2) (tOp (rI CPow fun i j => .int (i ^ j.toNat)) (tC (.int 10)) (tC (.int 18)))) tNil)))
          (tCons (tOp (rI0 fun i j => .int (i + j)) (tOp (rI (fun _ j => 0 < j) fun i j => .int (i % j)) (tOp (rI CMulW fun i j => .int (i * j))
            (tCB (fun xs H Q => (∃ i, xs = [.int i] ∧ Q (.int i) H) ∨ ∃ k, xs = [.bl k] ∧ Q (.int (if k then 1 else 0)) H) (tCons (tOp (rI0 fun i j => .int (i + j)) (tOp (rI0 fun i j => .int (i + j)) (tOp (rI (fun _ j => 0 < j) fun i j => .int (i % j))
              (tCB (fun xs H Q => (∃ i, xs = [.int i] ∧ Q (.int i) H) ∨ ∃ k, xs = [.bl k] ∧ Q (.int (if k then 1 else 0)) H) (tCons (tVar 2) tNil)) (tC (.int 2147483543))) (tOp (rI CMul fun i j => .int (i * j)) (tC (.int 11)) (tVar 1))) (tC (.int 2))) tNil))
            (tOp (rI CPow fun i j => .int (i ^ j.toNat)) (tOp (rI0 fun i j => .int (i + j)) (tOp (rI CMul fun i j => .int (i * j)) (tC (.int 2)) (tVar 1)) (tC (.int 9))) (tC (.int 3)))) (tC (.int 2147483477))) (tC (.int 1))) tNil))) [some (.ref a), some (.int k), some (.int c)] H R := by
      intro c hc R hR
      refine ⟨_, rfl, _, _, rfl, rfl, ⟨by decide, by decide, by decide⟩, _, _, rfl, rfl, _, _, rfl, ?_⟩
      refine ⟨_, rfl, .inl ⟨_, rfl, _, _, rfl, rfl, (by show (0 : Int) < 2147483543; decide), _, rfl, _, _, rfl, rfl, .inl ⟨by decide, by decide⟩, _, _, rfl, rfl, _, _, rfl, rfl, .inl ⟨_, rfl, ?_⟩⟩⟩
      refine ⟨_, rfl, _, _, rfl, rfl, .inl ⟨by decide, by decide⟩, _, _, rfl, rfl, _, _, rfl, rfl, ⟨by decide, by decide, ?_⟩, ?_⟩
      · omega
      have hm := Int.emod_nonneg c (b := 2147483543) (by omega)
      have hm2 := Int.emod_lt_of_pos c (b := 2147483543) (by omega)
      refine ⟨_, _, rfl, rfl, wide_mul (a := 64) (b := 200) ?_ ?_ (by omega) (by omega) (by omega), _, _, rfl, rfl, (by show (0 : Int) < 2147483477; decide), _, _, rfl, rfl, (by show 2 ≤ sizeLine; decide), fun l hl => hR _ _ ?_ ?_ ?_ l hl⟩
      · generalize c % 2147483543 = u at hm hm2 ⊢
        omega
      · rw [Int.natAbs_pow]
        exact Nat.lt_of_lt_of_le (Nat.pow_lt_pow_left (show (2 * (k : Int) + 9).natAbs < 2 ^ 60 by omega) (by decide)) (by decide)
      · split <;> omega
      · have := Int.emod_nonneg ((c % 2147483543 + 11 * (k : Int) + 2) * (2 * (k : Int) + 9) ^ (3 : Int).toNat) (b := 2147483477) (by omega)
        omega
      · have := Int.emod_lt_of_pos ((c % 2147483543 + 11 * (k : Int) + 2) * (2 * (k : Int) + 9) ^ (3 : Int).toNat) (b := 2147483477) (by omega)
        omega
    have done : ∀ x y : Int, 0 ≤ x → 0 ≤ y → y < 4294967296 → ∀ l, H l = none → Q (.ref l) (upd H l (.lst [.int x, .int y])) := fun x y h1 h2 h3 l hl => q _ l (sNew (Same.refl H) hl) hl ⟨x, y, upd_same, h1, h2, h3⟩
    by_cases hlt : ((k : Nat) : Int) < ((ns.map V.int).length : Nat)
    · rw [decide_eq_true hlt]
      refine iteT ?_
      have hk2 : k < ns.length := by
        rw [List.length_map] at hlt
        omega
      refine ⟨_, rfl, _, rfl, a, _, _, V.int ns[k], rfl, rfl, ha, at_of (j := k) rfl (by rw [List.getElem?_map, List.getElem?_eq_getElem hk2]; rfl), _, rfl, ?_⟩
      exact rest _ (by split <;> omega) Q done
    · rw [decide_eq_false hlt]
      refine iteF ?_
      refine ⟨_, rfl, _, _, rfl, rfl, .inl ⟨by decide, by decide⟩, _, _, rfl, rfl, ?_⟩
      exact rest _ (by omega) Q done
end
end S75

namespace S75
open PySem L2 SR
section
variable {P : Program} {w : World} {K : PySem.W.Frag} {mg : Str → Option Value} {base : Heap}
/-! ### _law_digit -/
def spDigit : Sp := fun vs H Q _ => ∃ (l : Addr) (many : Int), vs = [.ref l, .int many] ∧ PotAt H l ∧ 1 ≤ many ∧ many < 1073741824 ∧ ∀ (H' : Hp) (d : Int), SameX l H H' → PotAt H' l → 0 ≤ d → d < many → Q (.int d) H'
abbrev nDigit : List Str := ["_law_pot_here", "_law_many", "_law_digit_here"]
theorem scDigit : FnScope nDigit ["_law_pot_here", "_law_many"] (defScope sDigit) := ⟨rfl, rfl, rfl, by decide +kernel, rfl, by decide +kernel, by decide +kernel⟩
theorem ok_digit {f : Addr} {fd : FuncData} (F : Fun K "_law_digit" "_law_digit" sDigit f fd) (T : Bn mg) : FnOk P w K mg base CX0 1 f fd ["_law_pot_here", "_law_many"] spDigit := by
  refine F.ok scDigit (fun vs H Q E h => ?_) (fun cdv A outer s H vs Q E hr h => ?_)
  · obtain ⟨l, many, rfl, _⟩ := h
    rfl
  · obtain ⟨l, many, rfl, ⟨x, y, hl, hx, hy, hy2⟩, m1, m2, q⟩ := h
    refine ⟨_, pss_cons (ps_if (pt_cmpR op_gt (pe_ix ix_list (pv 0) pe_int (fun _ _ => rfl)) pe_int (nomark _))
        (pss_cons (ps_asg (pe_callB call_divmodW (by rfl) T.divmod (by decide +kernel) (pa_cons (pe_ix ix_list (pv 0) pe_int (fun _ _ => rfl)) (pa_cons (pv 1) pa_nil)))
          (pg_tup rfl (pgs_cons (pg_sub (pv 0) pe_int set_list) (pgs_cons (pg_name (i := 2) scDigit.nd rfl (Or.inl rfl)) pgs_nil))))
        (pss_one (ps_ret (pv 2)))) pss_nil)
      (pss_cons (ps_asg (pe_op op_mod (pe_callTy call_int1 (by rfl) T.int (by decide +kernel) (pa_cons (pe_op op_add (pe_op op_mul (pe_ix ix_list (pv 0) pe_int (fun _ _ => rfl)) pe_int) pe_int) pa_nil)) pe_int) (pg_sub (pv 0) pe_int set_list))
      (pss_one (ps_ret (pe_op op_mod (pe_callTy call_int1 (by rfl) T.int (by decide +kernel) (pa_cons (pe_op op_fdiv (pe_op op_mod (pe_callTy call_int1 (by rfl) T.int (by decide +kernel) (pa_cons (pe_op op_mul (pe_ix ix_list (pv 0) pe_int (fun _ _ => rfl)) (pe_ix ix_list (pv 0) pe_int (fun _ _ => rfl))) pa_nil)) pe_int) pe_int) pa_nil)) (pv 1))))), ?_⟩
    refine ⟨_, rfl, l, _, _, V.int x, rfl, rfl, SqL.of hl, at_of (j := 0) rfl rfl, _, _, rfl, rfl, _, rfl, ?_⟩
    by_cases hp : x > 0
    · rw [decide_eq_true hp]
      refine iteT ?_
      refine ⟨_, rfl, l, _, _, V.int x, rfl, rfl, SqL.of hl, at_of (j := 0) rfl rfl, _, rfl, _, _, rfl, ⟨by omega, PyProof.noPylong_small (by omega)⟩, fun t ht => ?_⟩
      have s1 := sNew (o := .tup [V.int (x / many), V.int (x % many)]) (Same.refl H) ht
      have ntl : t ≠ l := fun e => by rw [e, hl] at ht; cases ht
      refine ⟨t, _, rfl, .inl (.inl upd_same), rfl, _, _, rfl, _, rfl, l, _, _, 0, rfl, rfl, old hl ht, rfl, _, _, rfl, rfl, _, rfl, ?_⟩
      have e1 := Int.emod_nonneg x (b := many) (by omega)
      have e2 := Int.emod_lt_of_pos x (b := many) (by omega)
      have e3 : 0 ≤ x / many := Int.ediv_nonneg hx (by omega)
      exact q _ _ (SameX.put (SameX.of s1)) ⟨x / many, y, upd_same, e3, hy, hy2⟩ e1 e2
    · rw [decide_eq_false hp]
      refine iteF ?_
      refine ⟨_, rfl, l, _, _, V.int y, rfl, rfl, SqL.of hl, at_of (j := 1) rfl rfl, _, _, rfl, rfl, .inl ⟨by omega, by omega⟩, _, _, rfl, rfl, .inl ⟨_, rfl, ?_⟩⟩
      refine ⟨_, _, rfl, rfl, (by show (0 : Int) < 2147483423; decide), ?_⟩
      refine ⟨_, rfl, l, _, _, 1, rfl, rfl, hl, rfl, ?_⟩
      have e1 := Int.emod_nonneg (y * 40009 + 8111) (b := 2147483423) (by omega)
      have e2 := Int.emod_lt_of_pos (y * 40009 + 8111) (b := 2147483423) (by omega)
      have h2 : upd H l (.lst ([V.int x, V.int y].set 1 (V.int ((y * 40009 + 8111) % 2147483423)))) l = some (.lst [V.int x, V.int ((y * 40009 + 8111) % 2147483423)]) := upd_same
      have sx : SameX l H (upd H l (.lst ([V.int x, V.int y].set 1 (V.int ((y * 40009 + 8111) % 2147483423))))) := SameX.put (SameX.of (Same.refl H))
      generalize upd H l (.lst ([V.int x, V.int y].set 1 (V.int ((y * 40009 + 8111) % 2147483423)))) = H2 at h2 sx ⊢
      generalize (y * 40009 + 8111) % 2147483423 = z at e1 e2 h2 ⊢
      refine ⟨_, rfl, l, _, _, V.int z, rfl, rfl, SqL.of h2, at_of (j := 1) rfl rfl, _, rfl, l, _, _, V.int z, rfl, rfl, SqL.of h2, at_of (j := 1) rfl rfl, _, _, rfl, rfl, .inl ⟨by omega, by omega⟩, .inl ⟨_, rfl, ?_⟩⟩
      refine ⟨_, _, rfl, rfl, (by show (0 : Int) < 2147483399; decide), _, _, rfl, rfl, ⟨by decide, by decide⟩, .inl ⟨_, rfl, _, rfl, _, _, rfl, rfl, (by show (0 : Int) < many; omega), ?_⟩⟩
      exact q _ _ sx ⟨x, z, h2, hx, e1, by omega⟩ (Int.emod_nonneg _ (by omega)) (Int.emod_lt_of_pos _ (by omega))
/-! ### _law_pick -/
def spPick : Sp := fun vs H Q _ => ∃ (l s : Addr) (xs : List V), vs = [.ref l, .ref s] ∧ PotAt H l ∧ H s = some (.lst xs) ∧ s ≠ l ∧ 1 ≤ xs.length ∧ xs.length ≤ 1000 ∧ ∀ (H' : Hp) (v : V), SameX l H H' → PotAt H' l → v ∈ xs → Q v H'
theorem scPick : FnScope ["_law_pot_here", "_law_some"] ["_law_pot_here", "_law_some"] (defScope sPick) := ⟨rfl, rfl, rfl, by decide +kernel, rfl, by decide +kernel, by decide +kernel⟩
theorem ok_pick {f : Addr} {fd : FuncData} (F : Fun K "_law_pick" "_law_pick" sPick f fd) (T : Bn mg) (DD : Df P w K mg base "_law_digit" ["_law_pot_here", "_law_many"] 1 spDigit) : FnOk P w K mg base CX0 2 f fd ["_law_pot_here", "_law_some"] spPick := by
  refine F.ok scPick (fun vs H Q E h => ?_) (fun cdv A outer s H vs Q E hr h => ?_)
  · obtain ⟨l, s, xs, rfl, _⟩ := h
    rfl
  · obtain ⟨l, s, xs, rfl, hp, hs, ne, h1, h2, q⟩ := h
    refine ⟨_, pss_one (ps_ret (pe_ix ix_list (pv 1) (pe_df DD hr (by rfl) (pa_cons (pv 0) (pa_cons (pe_callB call_len_seq (by rfl) T.len PySem.boot_len (pa_cons (pv 1) pa_nil)) pa_nil))) (fun _ _ => rfl))), ?_⟩
    refine ⟨_, rfl, _, rfl, _, rfl, s, _, rfl, .inl (SqL.of hs), l, _, rfl, hp, by omega, by omega, fun H' d sx hp' d0 d1 => ?_⟩
    have hd : d.toNat < xs.length := by omega
    refine ⟨s, xs, d, xs[d.toNat], rfl, rfl, SqL.of (sx _ _ ne hs), at_of (j := d.toNat) (by omega) (List.getElem?_eq_getElem hd), ?_⟩
    exact q H' _ sx hp' (List.getElem_mem hd)
/-! ### _law_value, _law_sign -/
def spValue (K : PySem.W.Frag) : Sp := fun vs H Q _ => ∃ (a : Addr) (r : List Int) (d : Int) (n m : Nat), vs = [.ref a, .int d] ∧ SqL K H a (r.map V.int) ∧ Bd n r ∧ d.natAbs < 2 ^ m ∧ r.length ≤ 20 ∧ n ≤ 2000 ∧ m ≤ 2000 ∧ ∀ H', Same H H' → Q (.int (ev r d)) H'
abbrev nValue : List Str := ["_law_row", "_law_at", "_law_found", "_law_one"]
theorem scValue : FnScope nValue ["_law_row", "_law_at"] (defScope sValue) := ⟨rfl, rfl, rfl, by decide +kernel, rfl, by decide +kernel, by decide +kernel⟩
theorem ok_value {f : Addr} {fd : FuncData} (F : Fun K "_law_value" "_law_value" sValue f fd) : FnOk P w K mg base CX0 1 f fd ["_law_row", "_law_at"] (spValue K) := by
  refine F.ok scValue (fun vs H Q E h => ?_) (fun cdv A outer s H vs Q E hr h => ?_)
  · obtain ⟨a, r, d, n, m, rfl, _⟩ := h
    rfl
  · obtain ⟨a, r, d, n, m, rfl, ha, hn, hm, hl, ln, lm, q⟩ := h
    refine ⟨_, pss_cons (ps_set (i := 2) scValue.nd rfl (Or.inl rfl) pe_int)
      (pss_cons (ps_for PassesOwn.never rfl (pi_list (pe_revL (pv 0))) (pg_name (i := 3) scValue.nd rfl (Or.inl rfl)) (pss_one (ps_set (i := 2) scValue.nd rfl (Or.inl rfl) (pe_op op_add (pe_op op_mulW (pv 2) (pv 1)) (pv 3)))))
      (pss_one (ps_ret (pv 2)))), ?_⟩
    refine ⟨_, rfl, a, _, rfl, ha, fun u hu => ?_⟩
    have s1 := sNew (o := .lst (r.map V.int).reverse) (Same.refl H) hu
    refine ⟨u, rfl, ⟨_, SqL.of upd_same⟩, for_it (walk_list (K := K) (a := u) (xs := (r.map V.int).reverse)) (fun i σ H' => upd H u (.lst (r.map V.int).reverse) = H' ∧ ∃ v, σ = [some (.ref a), some (.int d), some (.int (ev (r.drop (r.length - i)) d)), v]) ⟨rfl, none, ?_⟩ (fun i σ H' _ h => h.1 ▸ SqL.of upd_same) ?_ ?_⟩
    · rw [Nat.sub_zero, List.drop_length]; rfl
    · rintro i y σ _ _ hi ⟨rfl, v, rfl⟩ ⟨rfl, hy⟩
      rw [← List.map_reverse] at hy
      obtain ⟨z, hz, rfl⟩ := map_get hy
      have hb : Bd n (r.drop (r.length - i)) := fun a ha => hn a (List.mem_of_mem_drop ha)
      have hbd := ev_bd hm hb
      have hi' : i < r.length := by simpa using hi
      refine ⟨_, rfl, _, rfl, _, _, rfl, rfl, wide_mul (a := 50000) (b := 3000) (Nat.lt_of_lt_of_le hbd (pow_mono ?_)) (Nat.lt_of_lt_of_le hm (pow_mono (by omega))) (by omega) (by omega) (by omega), _, rfl, _, _, rfl, rfl, ?_⟩
      · rw [List.length_drop]
        have h3 : (r.length - (r.length - i)) * (m + 1) ≤ 20 * 2001 := Nat.mul_le_mul (by omega) (by omega)
        omega
      · refine ⟨rfl, some (.int z), ?_⟩
        rw [ev_drop hz]; rfl
    · rintro σ _ ⟨rfl, v, rfl⟩
      refine ⟨_, rfl, ?_⟩
      have e : r.length - (r.map V.int).reverse.length = 0 := by simp
      rw [e, List.drop_zero]
      exact q _ s1
def spSign : Sp := fun vs H Q _ => ∃ x : Int, vs = [.int x] ∧ Q (.int (sgn x)) H
theorem scSign : FnScope ["_law_number"] ["_law_number"] (defScope sSign) := ⟨rfl, rfl, rfl, by decide +kernel, rfl, by decide +kernel, by decide +kernel⟩
theorem ok_sign {f : Addr} {fd : FuncData} (F : Fun K "_law_sign" "_law_sign" sSign f fd) (T : Bn mg) : FnOk P w K mg base CX0 1 f fd ["_law_number"] spSign := by
  refine F.ok scSign (fun vs H Q E h => ?_) (fun cdv A outer s H vs Q E hr h => ?_)
  · obtain ⟨x, rfl, _⟩ := h
    rfl
  · obtain ⟨x, rfl, q⟩ := h
    refine ⟨_, pss_one (ps_ret (pe_op op_sub (pe_callTy call_int1 (by rfl) T.int (by decide +kernel) (pa_cons (pe_cmpR op_gt (pv 0) pe_int (nomark _)) pa_nil)) (pe_callTy call_int1 (by rfl) T.int (by decide +kernel) (pa_cons (pe_cmpR op_lt (pv 0) pe_int (nomark _)) pa_nil)))), ?_⟩
    refine ⟨_, rfl, _, _, rfl, rfl, .inr ⟨_, rfl, ?_⟩⟩
    refine ⟨_, rfl, _, _, rfl, rfl, .inr ⟨_, rfl, ?_⟩⟩
    refine ⟨_, _, rfl, rfl, ?_⟩
    have e := sgn_int x
    rw [← e] at q
    exact q
end
end S75

namespace S75
open PySem L2 SR
theorem movedR_drop {back : Int} {r : List Int} {i : Nat} {a : Int} (h : r.reverse[i]? = some a) : movedR back (r.drop (r.length - (i + 1))) = (a - back * (movedR back (r.drop (r.length - i))).headD 0) :: List.zipWith (fun low high => low - back * high) (movedR back (r.drop (r.length - i))) ((movedR back (r.drop (r.length - i))).tail ++ [0]) := by
  have hi : i < r.length := by
    have := (List.getElem?_eq_some_iff.mp h).1
    simpa using this
  rw [List.getElem?_reverse hi] at h
  have e : r.length - (i + 1) = r.length - 1 - i := by omega
  rw [e]
  obtain ⟨hj, e2⟩ := List.getElem?_eq_some_iff.mp h
  rw [List.drop_eq_getElem_cons hj, e2, show r.length - 1 - i + 1 = r.length - i by omega]
  rfl
theorem cutV_tail (xs : List V) : cutV xs (some 1) none = xs.tail := by
  show (xs.drop (HT.sIx xs.length 0 (some 1))).take (HT.sIx xs.length xs.length none - HT.sIx xs.length 0 (some 1)) = xs.tail
  have e1 : HT.sIx xs.length 0 (some 1) = min 1 xs.length := HT.sIx_nat xs.length 0 1
  rw [e1, HT.sIx_none]
  cases xs with
  | nil => rfl
  | cons a t =>
    have e : min 1 (a :: t).length = 1 := by simp only [List.length_cons]; omega
    rw [e]
    show (t.take _) = t
    rw [List.take_of_length_le (by simp)]
section
variable {P : Program} {w : World} {K : PySem.W.Frag} {mg : Str → Option Value} {base : Heap}
/-! ### _law_moved -/
def spMoved (K : PySem.W.Frag) : Sp := fun vs H Q _ => ∃ (a : Addr) (r : List Int) (back : Int), vs = [.ref a, .int back] ∧ SqL K H a (r.map V.int) ∧ r.length ≤ 100 ∧ 0 ≤ back ∧ back < 1073741824 ∧
  ∀ H' l, Same H H' → H l = none → H' l = some (.lst ((movedR back r).map V.int)) → Q (.ref l) H'
abbrev nMoved : List Str := ["_law_row", "_law_back", "_law_found", "_law_one", "_law_low", "_law_high"]
theorem scMoved : FnScope nMoved ["_law_row", "_law_back"] (defScope sMoved) := ⟨rfl, rfl, rfl, by decide +kernel, rfl, by decide +kernel, by decide +kernel⟩
theorem ok_moved {f : Addr} {fd : FuncData} (F : Fun K "_law_moved" "_law_moved" sMoved f fd) (T : Bn mg) : FnOk P w K mg base CX0 1 f fd ["_law_row", "_law_back"] (spMoved K) := by
  refine F.ok scMoved (fun vs H Q E h => ?_) (fun cdv A outer s H vs Q E hr h => ?_)
  · obtain ⟨a, r, back, rfl, _⟩ := h
    rfl
  · obtain ⟨a, r, back, rfl, ha, hl, b0, b1, q⟩ := h
    refine ⟨_, pss_cons (ps_set (i := 2) scMoved.nd rfl (Or.inl rfl) (pe_lst pa_nil))
      (pss_cons (ps_for PassesOwn.never rfl (pi_list (pe_revL (pv 0))) (pg_name (i := 3) scMoved.nd rfl (Or.inl rfl))
        (pss_one (ps_set (i := 2) scMoved.nd rfl (Or.inl rfl) (pe_op op_cat
          (pe_lst (pa_cons (pe_op op_sub (pv 3) (pe_op op_mul (pv 1) (pe_ix ix_list (pe_op op_cat (pv 2) (pe_lst (pa_cons pe_int pa_nil))) pe_int (fun _ _ => rfl)))) pa_nil))
          (pe_lc (own := [("_law_low", 4), ("_law_high", 5)]) (g := gTup K 2 (gCons (gName 4) (gCons (gName 5) gNil))) (tt := tYes) (te := tOp (rI0 fun i j => .int (i - j)) (tVar 4) (tOp (rI CMul fun i j => .int (i * j)) (tVar 1) (tVar 5))) (by rfl) scMoved.nd
            (pi_zip (by rfl) T.zip (pa_cons (pv 2) (pa_cons (pe_op op_cat (pe_slice sl_list (pv 2) (po_some pe_int) po_none) (pe_lst (pa_cons pe_int pa_nil))) pa_nil)))
            (blkOk_by (own := [("_law_low", 4), ("_law_high", 5)]) (N := nMoved) (sc := defScope sMoved) (by decide +kernel))
            (fun _ _ _ _ _ => pg_tup rfl (pgs_cons (pg_name (i := 4) scMoved.nd rfl (Or.inl rfl)) (pgs_cons (pg_name (i := 5) scMoved.nd rfl (Or.inl rfl)) pgs_nil))) (fun _ _ _ _ _ => pts_nil)
            (fun _ _ _ _ _ => pe_op op_sub (pv 4) (pe_op op_mul (pv 1) (pv 5))))))))
      (pss_one (ps_ret (pv 2)))), ?_⟩
    refine ⟨Nat.zero_le _, fun l0 h0 => ?_⟩
    have s0 := sNew (o := .lst []) (Same.refl H) h0
    refine ⟨_, rfl, a, _, rfl, s0.seq ha, fun u hu => ?_⟩
    have s1 := sNew (o := .lst (r.map V.int).reverse) s0 hu
    have hl0 : upd (upd H l0 (.lst [])) u (.lst (r.map V.int).reverse) l0 = some (.lst []) := old upd_same hu
    have hu1 : upd (upd H l0 (.lst [])) u (.lst (r.map V.int).reverse) u = some (.lst (r.map V.int).reverse) := upd_same
    generalize upd (upd H l0 (.lst [])) u (.lst (r.map V.int).reverse) = H1 at s1 hl0 hu1 ⊢
    refine ⟨u, rfl, ⟨_, SqL.of hu1⟩, for_it (walk_list (K := K) (a := u) (xs := (r.map V.int).reverse)) (fun i σ H' => Same H1 H' ∧ ∃ v lf v4 v5, σ = [some (.ref a), some (.int back), some (.ref lf), v, v4, v5] ∧ H lf = none ∧ H' lf = some (.lst ((movedR back (r.drop (r.length - i))).map V.int)))
      ⟨Same.refl _, none, l0, none, none, rfl, h0, ?_⟩ (fun i σ H' _ h => SqL.of (h.1 _ _ hu1)) ?_ ?_⟩
    · rw [Nat.sub_zero, List.drop_length]; exact hl0
    · rintro i y σ _ H' hi ⟨s2, v, lf, v4, v5, rfl, nlf, hlf⟩ ⟨rfl, hy⟩
      rw [← List.map_reverse] at hy
      obtain ⟨z, hz, rfl⟩ := map_get hy
      have hi' : i < r.length := by simpa using hi
      have hmv := movedR_drop (back := back) hz
      have hfl : (movedR back (r.drop (r.length - i))).length ≤ 100 := by rw [len_movedR, List.length_drop]; omega
      generalize movedR back (r.drop (r.length - i)) = fr at hlf hmv hfl
      -- the head
      refine ⟨_, rfl, _, rfl, _, rfl, (by show 1 ≤ sizeLine; decide), fun l1 h1 => ?_⟩
      have s3 := sNew (o := .lst [V.int 0]) (Same.refl H') h1
      refine ⟨lf, l1, _, _, rfl, rfl, old hlf h1, upd_same, le_line (by simp only [List.length_map, List.length_cons, List.length_nil]; omega), fun l2 h2 => ?_⟩
      have s4 := sNew (o := .lst (fr.map V.int ++ [V.int 0])) s3 h2
      refine ⟨l2, _, _, V.int (fr.headD 0), rfl, rfl, SqL.of upd_same, at_of (j := 0) rfl ?_, _, _, rfl, rfl, .inl ⟨by omega, by omega⟩, _, _, rfl, rfl, (by show 1 ≤ sizeLine; decide), fun l3 h3 => ?_⟩
      · cases fr with
        | nil => rfl
        | cons a b => rfl
      have s5 := sNew (o := .lst [V.int (z - back * fr.headD 0)]) s4 h3
      -- the rest
      refine ⟨_, rfl, _, rfl, 1, rfl, lf, _, rfl, SqL.of (s5 _ _ hlf), fun l4 h4 => ?_⟩
      rw [cutV_tail]
      have s6 := sNew (o := .lst (fr.map V.int).tail) s5 h4
      refine ⟨(by show 1 ≤ sizeLine; decide), fun l5 h5 => ?_⟩
      have s7 := sNew (o := .lst [V.int 0]) s6 h5
      refine ⟨l4, l5, _, _, rfl, rfl, old upd_same h5, upd_same, le_line (by simp only [List.length_tail, List.length_map, List.length_cons, List.length_nil]; omega), fun l6 h6 => ?_⟩
      have s8 := sNew (o := .lst ((fr.map V.int).tail ++ [V.int 0])) s7 h6
      have hl3 : upd (upd (upd (upd (upd (upd H' l1 (.lst [V.int 0])) l2 (.lst (fr.map V.int ++ [V.int 0]))) l3 (.lst [V.int (z - back * fr.headD 0)])) l4 (.lst (fr.map V.int).tail)) l5 (.lst [V.int 0])) l6 (.lst ((fr.map V.int).tail ++ [V.int 0])) l3 = some (.lst [V.int (z - back * fr.headD 0)]) := old (old (old upd_same h4) h5) h6
      have hl6 : upd (upd (upd (upd (upd (upd H' l1 (.lst [V.int 0])) l2 (.lst (fr.map V.int ++ [V.int 0]))) l3 (.lst [V.int (z - back * fr.headD 0)])) l4 (.lst (fr.map V.int).tail)) l5 (.lst [V.int 0])) l6 (.lst ((fr.map V.int).tail ++ [V.int 0])) l6 = some (.lst ((fr.map V.int).tail ++ [V.int 0])) := upd_same
      generalize upd (upd (upd (upd (upd (upd H' l1 (.lst [V.int 0])) l2 (.lst (fr.map V.int ++ [V.int 0]))) l3 (.lst [V.int (z - back * fr.headD 0)])) l4 (.lst (fr.map V.int).tail)) l5 (.lst [V.int 0])) l6 (.lst ((fr.map V.int).tail ++ [V.int 0])) = H2 at s8 hl3 hl6 ⊢
      have etl : (fr.map V.int).tail ++ [V.int 0] = (fr.tail ++ [0]).map V.int := by simp
      rw [etl] at hl6
      refine ⟨lf, l6, _, _, rfl, SqL.of (s8 _ _ hlf), SqL.of hl6, fun D hD => ?_⟩
      generalize hzz : List.zipWith (fun low high => low - back * high) fr (fr.tail ++ [0]) = zz at hmv
      have hzl : zz.length = fr.length := by
        rw [← hzz, List.length_zipWith, List.length_append, List.length_tail]
        simp only [List.length_cons, List.length_nil]
        omega
      refine lc_it (walk_zip (K := K) (a := lf) (b := l6) (xs := fr.map V.int) (ys := (fr.tail ++ [0]).map V.int) (n := zz.length) (by rw [hzl]; simp only [List.length_map, List.length_append, List.length_tail, List.length_cons, List.length_nil]; omega))
        (fun j H3 => Same H2 H3 ∧ H3 D = some (.lst ((zz.take j).map V.int))) ⟨sNew (Same.refl H2) hD, upd_same⟩ (fun j H3 _ h => ⟨SqL.of (h.1 _ _ (s8 _ _ hlf)), SqL.of (h.1 _ _ hl6)⟩) ?_ ?_
      · rintro j x H3 _ hj ⟨u1, w1⟩ ⟨TT, x1, x2, rfl, hT, rfl, e1, e2⟩
        obtain ⟨z1, z1e, rfl⟩ := map_get e1
        obtain ⟨z2, z2e, rfl⟩ := map_get e2
        refine ⟨TT, _, rfl, .inl (.inl upd_same), rfl, _, _, rfl, _, _, rfl, rfl, rfl, ?_⟩
        refine ⟨_, rfl, _, rfl, _, rfl, _, _, rfl, rfl, .inl ⟨by omega, by omega⟩, _, _, rfl, rfl, _, old w1 hT, ?_, sPut (sNew u1 hT) hD, ?_⟩
        · simp only [List.length_map, List.length_take]
          exact lt_line (by omega)
        · rw [upd_same]
          congr 2
          refine take_succ_map ?_
          rw [← hzz, List.getElem?_zipWith, z1e, z2e]
      · rintro H3 ⟨u1, w1⟩
        rw [List.take_of_length_le (Nat.le_refl _)] at w1
        refine ⟨l3, D, _, _, rfl, rfl, u1 _ _ hl3, w1, le_line (by simp only [List.length_map, List.length_cons, List.length_nil]; omega), fun l7 h7 => ?_⟩
        have s9 : Same H1 H3 := Same.trans s2 (Same.trans s8 u1)
        refine ⟨sNew s9 h7, _, l7, _, _, rfl, (Same.trans s1 s9).free h7, ?_⟩
        rw [upd_same, hmv]
        rfl
    · rintro σ H' ⟨s2, v, lf, v4, v5, rfl, nlf, hlf⟩
      have e : r.length - (r.map V.int).reverse.length = 0 := by simp
      rw [e, List.drop_zero] at hlf
      exact ⟨_, rfl, q H' lf (Same.trans s1 s2) nlf hlf⟩
end
end S75

namespace S75
open PySem L2 SR
theorem bd_01 : Bd 1 [0, 1] := fun a ha => by
  rcases List.mem_cons.mp ha with rfl | ha
  · decide
  · rcases List.mem_cons.mp ha with rfl | ha
    · decide
    · cases ha
theorem trim_01 {c : List Int} {k : Nat} (e : ([0, 1] : List Int) = c ++ List.replicate k 0) : c = [0, 1] := by
  cases k with
  | zero => simpa using e.symm
  | succ k =>
    exfalso
    have : ([0, 1] : List Int).getLast? = some 0 := by
      rw [e, List.replicate_succ']
      simp
    simp at this
section
variable {P : Program} {w : World} {K : PySem.W.Frag} {mg : Str → Option Value} {base : Heap}
/-! ### _law_poly -/
def spPolyL (K : PySem.W.Frag) (C : Addr) : Sp := fun vs H Q _ => ∃ (a : Addr) (r : List Int) (n : Nat), vs = [.ref a] ∧ SqL K H a (r.map V.int) ∧ Bd n r ∧ n ≤ 1500 ∧ r.length ≤ 8 ∧
  ∀ (H' : Hp) (p' : Addr) (c : List Int), Same H H' → H p' = none → PolyAt C H' p' c → Canon c → (∀ x, ev c x = ev r x) → Bd (n + 60) c → c.length ≤ r.length → Q (.ref p') H'
abbrev nPolyL : List Str := ["_law_row", "_law_found", "_law_one"]
theorem scPolyL : FnScope nPolyL ["_law_row"] (defScope sPoly) := ⟨rfl, rfl, rfl, by decide +kernel, rfl, by decide +kernel, by decide +kernel⟩
theorem ok_polyL {f C : Addr} {fd : FuncData} (F : Fun K "_law_poly" "_law_poly" sPoly f fd) (N : POp P w K mg base C) : FnOk P w K mg base CX0 5 f fd ["_law_row"] (spPolyL K C) := by
  refine F.ok scPolyL (fun vs H Q E h => ?_) (fun cdv A outer s H vs Q E hr h => ?_)
  · obtain ⟨a, r, n, rfl, _⟩ := h
    rfl
  · obtain ⟨a, r, n, rfl, ha, hn, ln, hl, q⟩ := h
    have hr3 : Room 3 _ := hr.mono (by decide)
    refine ⟨_, pss_cons (ps_set (i := 1) scPolyL.nd rfl (Or.inl rfl) (pe_poly0 N.pl.pm hr3 (by rfl)))
      (pss_cons (ps_for PassesOwn.never rfl (pi_list (pe_revL (pv 0))) (pg_name (i := 2) scPolyL.nd rfl (Or.inl rfl))
        (pss_one (ps_set (i := 1) scPolyL.nd rfl (Or.inl rfl) (pe_op (op_padd N hr) (pe_op (op_pmul N hr) (pv 1) (pe_poly N.pl.pm hr3 (by rfl) (pa_cons pe_int (pa_cons pe_int pa_nil)) tConst2_mono)) (pe_poly N.pl.pm hr3 (by rfl) (pa_cons (pv 2) pa_nil) tCons1_mono)))))
      (pss_one (ps_ret (pv 1)))), ?_⟩
    refine ⟨Nat.zero_le _, fun H1 p1 c1 k1 s1 n1 hc1 e1 can1 => ?_⟩
    have ec1 : c1 = [] := by
      cases c1 with
      | nil => rfl
      | cons a b => cases e1
    subst ec1
    refine ⟨_, rfl, a, _, rfl, s1.seq ha, fun u hu => ?_⟩
    have s2 := sNew (o := .lst (r.map V.int).reverse) s1 hu
    refine ⟨u, rfl, ⟨_, SqL.of upd_same⟩, for_it (walk_list (K := K) (a := u) (xs := (r.map V.int).reverse)) (fun i σ H' => Same (upd H1 u (.lst (r.map V.int).reverse)) H' ∧ ∃ v pf c, σ = [some (.ref a), some (.ref pf), v] ∧ PolyAt C H' pf c ∧ H pf = none ∧ Canon c ∧ (∀ x, ev c x = ev (r.drop (r.length - i)) x) ∧ Bd (n + 7 * i) c)
      ⟨Same.refl _, none, p1, [], rfl, hc1.same (sNew (Same.refl _) hu), n1, (by simp [Canon]), fun x => by rw [Nat.sub_zero, List.drop_length], fun a ha => by cases ha⟩ (fun i σ H' _ h => SqL.of (h.1 _ _ upd_same)) ?_ ?_⟩
    · rintro i y σ _ H' hi ⟨s3, v, pf, c, rfl, hc, npf, can, hev, hbd⟩ ⟨rfl, hy⟩
      rw [← List.map_reverse] at hy
      obtain ⟨z, hz, rfl⟩ := map_get hy
      have hi' : i < r.length := by simpa using hi
      have hlc : c.length ≤ i := by
        have h3 := canon_len (c := c) (q := r.drop (r.length - i)) (N := 0) can (fun x _ => hev x)
        rw [List.length_drop] at h3
        omega
      refine ⟨_, rfl, ?_⟩
      refine ⟨[0, 1], rfl, (by decide), fun H4 p4 c4 k4 s4 n4 hc4 e4 can4 => ?_⟩
      have ec4 := trim_01 e4
      subst ec4
      refine ⟨pf, p4, c, [0, 1], rfl, rfl, hc.same s4, hc4, by omega, by decide, ⟨_, 1, hbd, bd_01, by omega, by omega⟩, fun H5 p5 c5 k5 s5 n5 hc5 e5 can5 => ?_⟩
      refine ⟨_, rfl, [z], rfl, (by show 1 ≤ 1000; decide), fun H6 p6 c6 k6 s6 n6 hc6 e6 can6 => ?_⟩
      have hb5 : Bd (n + 7 * i + 1 + 5) c5 := row_bd e5 (Bd.mul hbd bd_01 (by simp only [List.length_cons, List.length_nil]; omega))
      have hb6 : Bd n c6 := row_bd e6 (fun a ha => by
        rcases List.mem_cons.mp ha with rfl | ha
        · exact hn a (List.mem_reverse.mp (List.mem_of_getElem? hz))
        · cases ha)
      have hl5 : c5.length ≤ 100 := by
        have h3 : (mulR c [0, 1]).length = c5.length + k5 := by rw [e5]; simp
        rw [len_mulR] at h3
        simp only [List.length_cons, List.length_nil] at h3
        omega
      have hl6 : c6.length ≤ 100 := by
        have h3 : ([z] : List Int).length = c6.length + k6 := by rw [e6]; simp
        simp only [List.length_cons, List.length_nil] at h3
        omega
      refine ⟨p5, p6, c5, c6, rfl, rfl, hc5.same s6, hc6, hl5, hl6, trivial, fun H7 p7 c7 k7 s7 n7 hc7 e7 can7 => ?_⟩
      refine ⟨Same.trans s3 (Same.trans s4 (Same.trans s5 (Same.trans s6 s7))), _, p7, c7, rfl, hc7, ?_, can7, fun x => ?_, ?_⟩
      · exact (Same.trans s2 (Same.trans s3 (Same.trans s4 (Same.trans s5 s6)))).free n7
      · rw [row_ev e7, ev_addR, row_ev e5, row_ev e6, ev_mulR, hev, ev_drop hz]
        show ev (r.drop (r.length - i)) x * (0 + x * (1 + x * 0)) + (z + x * 0) = _
        rw [show (0 + x * (1 + x * 0) : Int) = x by omega, show z + x * 0 = z by omega]
      · exact row_bd e7 (Bd.add (by omega) (by omega) hb5 hb6)
    · rintro σ H' ⟨s3, v, pf, c, rfl, hc, npf, can, hev, hbd⟩
      have e2 : (r.map V.int).reverse.length = r.length := by simp
      rw [e2] at hbd hev
      rw [Nat.sub_self, List.drop_zero] at hev
      have hlc : c.length ≤ r.length := canon_len (c := c) (q := r) (N := 0) can (fun x _ => hev x)
      exact ⟨_, rfl, q H' pf c (Same.trans s2 s3) npf hc can hev (hbd.mono (by omega)) hlc⟩
/-! ### _law_due -/
def gLaw (r : List Int) (back times : Int) : Int → Int := fun d => sgn (times * ev r (d - back))
def spDue (K : PySem.W.Frag) : Sp := fun vs H Q _ => ∃ (a : Addr) (r : List Int) (back times : Int), vs = [.ref a, .int back, .int times] ∧ SqL K H a (r.map V.int) ∧ (∀ x ∈ r, -9 ≤ x ∧ x ≤ 9) ∧ r.length ≤ 8 ∧ 0 ≤ back ∧ back < 1073741824 ∧ times.natAbs < 2 ^ 40 ∧
  ∀ (H' : Hp) (l : Addr) (L : List (Int × Int)), Same H H' → H l = none → RunsAt H' l L → IsRuns (gLaw r back times) 1 L → L.length ≤ 100 → Q (.ref l) H'
abbrev nDue : List Str := ["_law_row", "_law_back", "_law_times", "_law_first", "_law_found", "_law_d", "_law_sign_here"]
theorem scDue : FnScope nDue ["_law_row", "_law_back", "_law_times"] (defScope sDue) := ⟨rfl, rfl, rfl, by decide +kernel, rfl, by decide +kernel, by decide +kernel⟩
theorem bd_nine {r : List Int} (h : ∀ x ∈ r, -9 ≤ x ∧ x ≤ 9) : Bd 4 r := fun a ha => by
  have := h a ha
  show a.natAbs < 16
  omega
theorem ok_due {f : Addr} {fd : FuncData} (F : Fun K "_law_due" "_law_due" sDue f fd) (T : Bn mg) (DV : Df P w K mg base "_law_value" ["_law_row", "_law_at"] 1 (spValue K)) (DG : Df P w K mg base "_law_sign" ["_law_number"] 1 spSign) : FnOk P w K mg base CX0 2 f fd ["_law_row", "_law_back", "_law_times"] (spDue K) := by
  refine F.ok scDue (fun vs H Q E h => ?_) (fun cdv A outer s H vs Q E hr h => ?_)
  · obtain ⟨a, r, back, times, rfl, _⟩ := h
    rfl
  · obtain ⟨a, r, back, times, rfl, ha, h9, hl, b0, b1, ht, q⟩ := h
    refine ⟨_, pss_cons (ps_set (i := 3) scDue.nd rfl (Or.inl rfl) (pe_callB (call_max2 rfl) (by rfl) T.max (by decide +kernel) (pa_cons pe_int (pa_cons (pe_op op_sub (pv 1) pe_int) pa_nil))))
      (pss_cons (ps_set (i := 4) scDue.nd rfl (Or.inl rfl) (pe_lst (pa_cons (pe_tup (pa_cons pe_int (pa_cons (pe_df DG hr (by rfl) (pa_cons (pe_op op_mulW (pv 2) (pe_df DV hr (by rfl) (pa_cons (pv 0) (pa_cons (pe_op op_sub (pv 3) (pv 1)) pa_nil)))) pa_nil)) pa_nil))) pa_nil)))
      (pss_cons (ps_for PassesOwn.never rfl (pi_range2 (by rfl) T.range (pa_cons (pv 3) (pa_cons (pe_op op_add (pv 1) pe_int) pa_nil))) (pg_name (i := 5) scDue.nd rfl (Or.inl rfl))
        (pss_cons (ps_set (i := 6) scDue.nd rfl (Or.inl rfl) (pe_df DG hr (by rfl) (pa_cons (pe_op op_mulW (pv 2) (pe_df DV hr (by rfl) (pa_cons (pv 0) (pa_cons (pe_op op_sub (pv 5) (pv 1)) pa_nil)))) pa_nil)))
        (pss_one (ps_if (pt_cmpR op_ne (pv 6) (pe_ix ix_tup (pe_ix ix_list (pv 4) (pe_un un_neg pe_int) (fun _ _ => rfl)) pe_int (fun _ _ => rfl)) (nomark _))
          (pss_one (ps_expr (pe_bm PySem.F.plainAttrs_list PySem.F.slot_list_append PySem.F.type_list_append mt_append (pv 4) (pa_cons (pe_tup (pa_cons (pv 5) (pa_cons (pv 6) pa_nil))) pa_nil)))) pss_nil))))
      (pss_one (ps_ret (pv 4))))), ?_⟩
    have hbd := bd_nine h9
    have evb : ∀ d : Int, d.natAbs < 2 ^ 40 → (ev r d).natAbs < 2 ^ 1000 := fun d hd => Nat.lt_of_lt_of_le (ev_bd hd hbd) (pow_mono (by
      have h3 : r.length * (40 + 1) ≤ 8 * 41 := Nat.mul_le_mul hl (by omega)
      omega))
    refine ⟨_, rfl, _, _, rfl, rfl, _, _, rfl, ?_⟩
    obtain ⟨fi, hfi⟩ : ∃ fi : Int, fi = (if back - 12 > 1 then back - 12 else 1) := ⟨_, rfl⟩
    rw [← hfi]
    have f1 : 1 ≤ fi ∧ fi ≤ back + 12 ∧ ((fi = 1 ∧ back ≤ 13) ∨ fi = back - 12) := by
      rw [hfi]; split <;> omega
    clear hfi
    refine ⟨_, rfl, _, rfl, _, rfl, _, rfl, _, _, rfl, rfl, a, r, fi - back, 4, 40, rfl, ha, hbd, by omega, by omega, by omega, by omega, fun H1 s1 => ?_⟩
    refine ⟨_, _, rfl, rfl, wide_mul (a := 40) (b := 1000) ht (evb _ (by omega)) (by omega) (by omega) (by omega), _, rfl, ?_⟩
    refine ⟨(by show 2 ≤ sizeLine; decide), fun tp htp => ?_⟩
    refine ⟨(by show 1 ≤ sizeLine; decide), fun lf hlf => ?_⟩
    have s2 := sNew (o := .tup [V.int 1, V.int (sgn (times * ev r (fi - back)))]) s1 htp
    have s3 := sNew (o := .lst [V.ref tp]) s2 hlf
    have flf : H lf = none := s2.free hlf
    have hR0 : RunsAt (upd (upd H1 tp (.tup [V.int 1, V.int (sgn (times * ev r (fi - back)))])) lf (.lst [V.ref tp])) lf [(1, gLaw r back times fi)] := ⟨_, upd_same, Tups.one (old upd_same hlf)⟩
    generalize upd (upd H1 tp (.tup [V.int 1, V.int (sgn (times * ev r (fi - back)))])) lf (.lst [V.ref tp]) = H2 at s3 hR0 ⊢
    obtain ⟨⟨sr, hsr⟩, ⟨sl, hsl⟩⟩ := law_far (t := times) (b := back) h9
    refine ⟨_, rfl, _, rfl, _, _, rfl, rfl, fi, _, rfl, ⟨by omega, by omega, by omega, by omega⟩, ?_⟩
    obtain ⟨nn, hnn⟩ : ∃ nn : Nat, nn = (back + 13 - fi).toNat := ⟨_, rfl⟩
    rw [← hnn]
    refine for_it (walk_range (lo := fi) (n := nn)) (fun i σ H' => ∃ (L : List (Int × Int)) (v5 v6 : Option V), σ = [some (.ref a), some (.int back), some (.int times), some (.int fi), some (.ref lf), v5, v6] ∧ Same H H' ∧ RunsAt H' lf L ∧ Upto (gLaw r back times) 1 (fi + (max i 1 : Nat)) L ∧ L.length ≤ i + 1)
      ⟨_, none, none, rfl, s3, hR0, ⟨rfl, by omega, fun d d1 d2 => ?_⟩, by show 1 ≤ 1; decide⟩ (fun _ _ _ _ _ => trivial) ?_ ?_
    · show gLaw r back times d = gLaw r back times fi
      rcases f1.2.2 with ⟨e, _⟩ | e
      · have : d = fi := by omega
        rw [this]
      · by_cases hd : d = fi
        · rw [hd]
        · show sgn (times * ev r (d - back)) = sgn (times * ev r (fi - back))
          rw [hsl d (by omega), hsl fi (by omega)]
    · rintro i x σ _ H' hi ⟨L, v5, v6, rfl, s4, hR, hU, hL⟩ ⟨rfl, rfl⟩
      refine ⟨_, rfl, _, rfl, _, rfl, _, rfl, _, _, rfl, rfl, a, r, fi + (i : Int) - back, 4, 40, rfl, s4.seq ha, hbd, by omega, by omega, by omega, by omega, fun H3 s5 => ?_⟩
      refine ⟨_, _, rfl, rfl, wide_mul (a := 40) (b := 1000) ht (evb _ (by omega)) (by omega) (by omega) (by omega), _, rfl, ?_⟩
      obtain ⟨acc, a1, a2⟩ := hR.same s5
      obtain ⟨B, z, hB⟩ : ∃ B z, L = B ++ [z] := ⟨_, _, (List.dropLast_concat_getLast hU.ne).symm⟩
      have hlastz : z.2 = gLaw r back times (fi + (max i 1 : Nat) - 1) := by
        have := hU.last
        rw [hB] at this
        simpa using this
      have a2' := a2
      rw [hB] at a2'
      have hacc : acc ≠ [] := fun e => by
        have := a2'.len
        rw [e] at this
        simp at this
      obtain ⟨ac, va, rfl⟩ : ∃ ac va, acc = ac ++ [va] := ⟨_, _, (List.dropLast_concat_getLast hacc).symm⟩
      have hle : ac.length = B.length := by
        have := a2'.len
        simpa using this
      obtain ⟨p2, t2, hp2, rfl, ht2⟩ := a2'.get (i := ac.length) (v := va) (by simp)
      have ez : p2 = z := by
        rw [hle] at hp2
        simp at hp2
        exact hp2.symm
      subst ez
      refine ⟨_, rfl, _, rfl, _, rfl, lf, _, _, _, rfl, rfl, SqL.of a1, atI_lastV _ _, t2, _, _, _, rfl, rfl, .inl (.inl ht2), at_of (j := 1) rfl rfl, rfl, _, rfl, ?_⟩
      have hgi : sgn (times * ev r (fi + (i : Int) - back)) = gLaw r back times (fi + i) := rfl
      rw [hgi]
      have hm := hU.more (v := gLaw r back times (fi + (max i 1 : Nat))) rfl
      by_cases hz : gLaw r back times (fi + i) = p2.2
      · show if (!decide (V.int (gLaw r back times (fi + i)) = V.int p2.2)) = true then _ else _
        rw [decide_eq_true (congrArg V.int hz)]
        refine iteF ?_
        refine ⟨L, _, _, rfl, Same.trans s4 s5, hR.same s5, ?_, by omega⟩
        by_cases i0 : i = 0
        · subst i0
          exact hU
        · have e1 : max i 1 = i := by omega
          have e2 : (max (i + 1) 1 : Nat) = i + 1 := by omega
          rw [e1] at hm hlastz
          rw [e2]
          rw [if_pos (by rw [hz, hlastz])] at hm
          have e3 : fi + ((i + 1 : Nat) : Int) = fi + (i : Nat) + 1 := by omega
          rw [e3]
          exact hm
      · show if (!decide (V.int (gLaw r back times (fi + i)) = V.int p2.2)) = true then _ else _
        rw [decide_eq_false (fun e => hz (V.int.inj e))]
        refine iteT ?_
        have i0 : i ≠ 0 := fun e => by
          subst e
          apply hz
          rw [hlastz]
          have e1 : fi + ((0 : Nat) : Int) = fi + ((max 0 1 : Nat) : Int) - 1 := by
            have : (max 0 1 : Nat) = 1 := rfl
            rw [this]; omega
          rw [e1]
        have e1 : max i 1 = i := by omega
        have e2 : (max (i + 1) 1 : Nat) = i + 1 := by omega
        rw [e1] at hm hlastz
        rw [if_neg (by rw [← hlastz]; exact hz)] at hm
        refine ⟨_, rfl, .inl ⟨rfl, _, SqL.of a1⟩, _, rfl, _, rfl, (by show 2 ≤ sizeLine; decide), fun tq htq => ?_⟩
        refine ⟨lf, _, _, rfl, rfl, old a1 htq, ?_, ?_⟩
        · rw [a2.len]; exact lt_line (by omega)
        · have ntl : tq ≠ lf := fun e => by rw [e, a1] at htq; cases htq
          refine ⟨L ++ [(fi + i, gLaw r back times (fi + i))], _, _, rfl, sPut (sNew (Same.trans s4 s5) htq) flf, ⟨_, upd_same, Tups.append (tups_but (fun b o hb e => by rw [upd_ne hb]; exact old e htq) a1 a2) (Tups.one (by rw [upd_ne ntl, upd_same]))⟩, ?_, ?_⟩
          · rw [e2]
            have e3 : fi + ((i + 1 : Nat) : Int) = fi + (i : Nat) + 1 := by omega
            rw [e3]
            exact hm
          · rw [List.length_append]; simp only [List.length_cons, List.length_nil]; omega
    · rintro σ H' ⟨L, v5, v6, rfl, s4, hR, hU, hL⟩
      have e1 : max nn 1 = nn := by omega
      rw [e1] at hU
      have hlast := hU.last
      refine ⟨_, rfl, q H' lf L s4 flf hR (hU.whole_same hlast (fun d hd => ?_)) (by omega)⟩
      show sgn (times * ev r (d - back)) = sgn (times * ev r (fi + (nn : Nat) - 1 - back))
      rw [hsr d (by omega), hsr _ (by omega)]
end
end S75

namespace S75
open PySem L2 SR
theorem sxPut {l D : Addr} {H H' : Hp} {o : HO} (s : SameX l H H') (n : H D = none) : SameX l H (upd H' D o) := fun b x hb e => by
  rw [upd_ne (ne_of_none e n)]
  exact s b x hb e
theorem sxNew {l D : Addr} {H H' : Hp} {o : HO} (s : SameX l H H') (n : H' D = none) : SameX l H (upd H' D o) := fun b x hb e => by
  have h := s b x hb e
  rw [upd_ne (ne_of_none h n)]
  exact h
theorem PotAt.other {l D : Addr} {H : Hp} {o : HO} (h : PotAt H l) (n : l ≠ D) : PotAt (upd H D o) l := by
  obtain ⟨x, y, e, r⟩ := h
  exact ⟨x, y, by rw [upd_ne n]; exact e, r⟩
theorem PotAt.same {l : Addr} {H H' : Hp} (s : Same H H') (h : PotAt H l) : PotAt H' l := by
  obtain ⟨x, y, e, r⟩ := h
  exact ⟨x, y, s _ _ e, r⟩
theorem PotAt.ne {l D : Addr} {H : Hp} (h : PotAt H l) (n : H D = none) : l ≠ D := by
  obtain ⟨x, y, e, r⟩ := h
  exact ne_of_none e n
section
variable {P : Program} {w : World} {K : PySem.W.Frag} {mg : Str → Option Value} {base : Heap}
def spRight : Sp := fun vs H Q _ => ∃ l : Addr, vs = [.ref l] ∧ PotAt H l ∧ ∀ H', SameX l H H' → Q (.bl true) H'
abbrev nRight : List Str := ["_law_pot_here", "_law_turn", "_law_row", "_law_back", "_law_times", "_law_made", "_law_due_here", "_law_told", "_law_k", "_law_one", "_law_d", "_law_sign_here"]
theorem scRight : FnScope nRight ["_law_pot_here"] (defScope sRight) := ⟨rfl, rfl, rfl, by decide +kernel, rfl, by decide +kernel, by decide +kernel⟩
def teRow : TE := tOp (rI0 fun i j => .int (i - j)) (tCall spDigit [] E0 (tCons (tVar 0) (tCons (tC (.int 19)) tNil))) (tC (.int 9))
def teScale : TE := tOp (rI CMulW fun i j => .int (i * j)) (tVar 4) (tVar 9)
def tePair : TE := tTup (tCons (tVar 10) (tCons (tOp (rI0 fun i j => .int (i - j)) (tC (.int 0)) (tVar 11)) tNil))
structure Defs (P : Program) (w : World) (K : PySem.W.Frag) (mg : Str → Option Value) (base : Heap) (C : Addr) : Prop where
  bn : Bn mg
  op : POp P w K mg base C
  digit : Df P w K mg base "_law_digit" ["_law_pot_here", "_law_many"] 1 spDigit
  pick : Df P w K mg base "_law_pick" ["_law_pot_here", "_law_some"] 2 spPick
  moved : Df P w K mg base "_law_moved" ["_law_row", "_law_back"] 1 (spMoved K)
  poly : Df P w K mg base "_law_poly" ["_law_row"] 5 (spPolyL K C)
  due : Df P w K mg base "_law_due" ["_law_row", "_law_back", "_law_times"] 2 (spDue K)
  runs : Df P w K mg base "sign_runs" ["polynomial"] 6 (spSignRuns C)
theorem ok_right {f C : Addr} {fd : FuncData} (F : Fun K "_law_right" "_law_right" sRight f fd) (D : Defs P w K mg base C) : FnOk P w K mg base CX0 7 f fd ["_law_pot_here"] spRight := by
  refine F.ok scRight (fun vs H Q E h => ?_) (fun cdv A outer s H vs Q E hr h => ?_)
  · obtain ⟨l, rfl, _⟩ := h
    rfl
  · obtain ⟨l, rfl, hpot, q⟩ := h
    have T := D.bn
    have h1 : Room 1 _ := hr.mono (by decide)
    have h2 : Room 2 _ := hr.mono (by decide)
    have h3 : Room 3 _ := hr.mono (by decide)
    have h4 : Room 4 _ := hr.mono (by decide)
    have h5 : Room 5 _ := hr.mono (by decide)
    refine ⟨_, pss_cons (ps_for PassesOwn.never rfl (pi_range1 (by rfl) T.range (pa_cons pe_int pa_nil)) (pg_name (i := 1) scRight.nd rfl (Or.inl rfl))
      (pss_cons (ps_setLc (i := 2) (own := [("_law_k", 8)]) (g := gName 8) (tt := tYes) (te := teRow) rfl scRight.nd rfl rfl (sw_true rfl rfl rfl (by decide +kernel))
          (pi_range1 (by rfl) T.range (pa_cons (pe_df D.digit h1 (by rfl) (pa_cons (pv 0) (pa_cons pe_int pa_nil))) pa_nil))
          (blkOk_by (own := [("_law_k", 8)]) (N := nRight) (sc := defScope sRight) (by decide +kernel))
          (fun _ _ _ _ _ => pg_name (i := 8) scRight.nd rfl (Or.inl rfl)) (fun _ _ _ _ _ => pts_nil)
          (fun _ _ _ _ _ => pe_op op_sub (pe_df D.digit h1 (by rfl) (pa_cons (pv 0) (pa_cons pe_int pa_nil))) pe_int))
      (pss_cons (ps_set (i := 3) scRight.nd rfl (Or.inl rfl) (pe_df D.pick h2 (by rfl) (pa_cons (pv 0) (pa_cons (pe_lst (pa_cons pe_int (pa_cons pe_int (pa_cons pe_int
          (pa_cons (pe_df D.digit h1 (by rfl) (pa_cons (pv 0) (pa_cons (pe_op op_pow pe_int pe_int) pa_nil))) (pa_cons (pe_df D.digit h1 (by rfl) (pa_cons (pv 0) (pa_cons (pe_op op_pow pe_int pe_int) pa_nil))) pa_nil)))))) pa_nil))))
      (pss_cons (ps_set (i := 4) scRight.nd rfl (Or.inr rfl) (pe_df D.pick h2 (by rfl) (pa_cons (pv 0) (pa_cons (pe_lst (pa_cons pe_int (pa_cons pe_int (pa_cons (pe_un un_neg pe_int) (pa_cons pe_int (pa_cons (pe_un un_neg (pe_op op_pow pe_int pe_int)) pa_nil)))))) pa_nil))))
      (pss_cons (ps_par (i := 5) (j := 6) (by rfl) scRight.nd rfl rfl (by decide) rfl rfl
          (pa_cons (pe_df D.poly h5 (by rfl) (pa_cons (pe_lc (own := [("_law_one", 9)]) (g := gName 9) (tt := tYes) (te := teScale) (by rfl) scRight.nd (pi_list (pe_df D.moved h1 (by rfl) (pa_cons (pv 2) (pa_cons (pv 3) pa_nil))))
            (blkOk_by (own := [("_law_one", 9)]) (N := nRight) (sc := defScope sRight) (by decide +kernel))
            (fun _ _ _ _ _ => pg_name (i := 9) scRight.nd rfl (Or.inl rfl)) (fun _ _ _ _ _ => pts_nil) (fun _ _ _ _ _ => pe_op op_mulW (pv 4) (pv 9))) pa_nil))
          (pa_cons (pe_df D.due h2 (by rfl) (pa_cons (pv 2) (pa_cons (pv 3) (pa_cons (pv 4) pa_nil)))) pa_nil)) (by rfl))
      (pss_cons (ps_if (PW.pt (pw_or (pt_cmpR (op_neD hr.units) (pe_df D.runs hr (by rfl) (pa_cons (pv 5) pa_nil)) (pv 6) (nomark _))
          (pw_or1 (pt_cmpR (op_neD hr.units) (pe_df D.runs hr (by rfl) (pa_cons (pe_un (un_pneg D.op h4) (pv 5)) pa_nil))
            (pe_lc (own := [("_law_d", 10), ("_law_sign_here", 11)]) (g := gTup K 2 (gCons (gName 10) (gCons (gName 11) gNil))) (tt := tYes) (te := tePair) (by rfl) scRight.nd (pi_list (pv 6))
              (blkOk_by (own := [("_law_d", 10), ("_law_sign_here", 11)]) (N := nRight) (sc := defScope sRight) (by decide +kernel))
              (fun _ _ _ _ _ => pg_tup rfl (pgs_cons (pg_name (i := 10) scRight.nd rfl (Or.inl rfl)) (pgs_cons (pg_name (i := 11) scRight.nd rfl (Or.inl rfl)) pgs_nil))) (fun _ _ _ _ _ => pts_nil)
              (fun _ _ _ _ _ => pe_tup (pa_cons (pv 10) (pa_cons (pe_op op_sub pe_int (pv 11)) pa_nil)))) (nomark _)))))
          (pss_one ps_never) pss_nil)
      (pss_cons (ps_set (i := 7) scRight.nd rfl (Or.inl rfl) (pe_df D.runs hr (by rfl) (pa_cons (pv 5) pa_nil)))
      (pss_cons (ps_expr (pe_bm PySem.F.plainAttrs_list PySem.F.slot_list_append PySem.F.type_list_append mt_append (pv 7) (pa_cons (pe_tup (pa_cons pe_int (pa_cons pe_int pa_nil))) pa_nil)))
      (pss_one (ps_if (PW.pt (pw_or (pt_cmpR (op_neD hr.units) (pe_df D.runs hr (by rfl) (pa_cons (pv 5) pa_nil)) (pv 6) (nomark _))
          (pw_or1 (pt_cmpR (op_neD hr.units) (pe_df D.runs hr (by rfl) (pa_cons (pe_op (op_pmul D.op h4) (pe_poly D.op.pl.pm h3 (by rfl) (pa_cons pe_int (pa_cons pe_int pa_nil)) tConst2_mono) (pv 5)) pa_nil)) (pv 6) (nomark _)))))
          (pss_one ps_never) pss_nil))))))))))
      (pss_one (ps_ret pe_bl)), ?_⟩
    refine ⟨4, rfl, by decide, by decide, for_it (walk_range (lo := 0) (n := 4)) (fun i σ H' => SameX l H H' ∧ PotAt H' l ∧ ∃ v1 v2 v3 v4 v5 v6 v7, σ = [some (.ref l), v1, v2, v3, v4, v5, v6, v7, none, none, none, none]) ⟨SameX.of (Same.refl H), hpot, none, none, none, none, none, none, none, rfl⟩ (fun _ _ _ _ _ => trivial) ?_ ?_⟩
    · rintro it x σ _ H0 hit ⟨sx0, pot0, v1, v2, v3, v4, v5, v6, v7, rfl⟩ ⟨rfl, rfl⟩
      -- the row
      refine ⟨_, rfl, l, 7, rfl, pot0, by decide, by decide, fun H1 d sx1 pot1 d0 d1 => ?_⟩
      refine ⟨d, rfl, by omega, by omega, fun L1 hL1 => ?_⟩
      have nlL1 : l ≠ L1 := pot1.ne hL1
      refine lc_it (walk_range (lo := 0) (n := d.toNat)) (fun i H' => SameX l H1 H' ∧ PotAt H' l ∧ ∃ r : List Int, H' L1 = some (.lst (r.map V.int)) ∧ r.length = i ∧ ∀ x ∈ r, -9 ≤ x ∧ x ≤ 9) ⟨sxNew (SameX.of (Same.refl H1)) hL1, pot1.other nlL1, [], upd_same, rfl, fun x hx => by cases hx⟩ (fun _ _ _ _ => trivial) ?_ ?_
      · rintro i x _ H2 hi ⟨sx2, pot2, r, hr2, hrl, hr9⟩ ⟨rfl, rfl⟩
        refine ⟨rfl, _, rfl, l, 19, rfl, pot2, by decide, by decide, fun H3 e sx3 pot3 e0 e1 => ?_⟩
        refine ⟨_, _, rfl, rfl, _, sx3 _ _ nlL1.symm hr2, ?_, sxPut (SameX.trans sx2 sx3) hL1, pot3.other nlL1, r ++ [e - 9], ?_, ?_, ?_⟩
        · rw [List.length_map]; exact lt_line (by omega)
        · rw [upd_same, List.map_append]; rfl
        · rw [List.length_append, hrl]; rfl
        · intro y hy
          rcases List.mem_append.mp hy with hy | hy
          · exact hr9 y hy
          · rcases List.mem_cons.mp hy with rfl | hy
            · omega
            · cases hy
      rintro H2 ⟨sx2, pot2, r, hr2, hrl, hr9⟩
      have hrlen : r.length ≤ 6 := by omega
      -- back
      refine ⟨_, rfl, ?_⟩
      refine ⟨_, rfl, _, _, rfl, rfl, ⟨by decide, by decide, by decide⟩, l, _, rfl, pot2, by decide, by decide, fun H3 b1 sx3 pot3 b10 b11 => ?_⟩
      refine ⟨_, rfl, _, _, rfl, rfl, ⟨by decide, by decide, by decide⟩, l, _, rfl, pot3, by decide, by decide, fun H4 b2 sx4 pot4 b20 b21 => ?_⟩
      refine ⟨(by show 5 ≤ sizeLine; decide), fun L2 hL2 => ?_⟩
      refine ⟨l, L2, _, rfl, pot4.other (pot4.ne hL2), upd_same, (pot4.ne hL2).symm, (by show 1 ≤ 5; decide), (by show 5 ≤ 1000; decide), fun H5 bv sx5 pot5 hbv => ?_⟩
      obtain ⟨back, rfl, bk0, bk1⟩ : ∃ back : Int, bv = V.int back ∧ 0 ≤ back ∧ back < 1073741824 := by
        have b11' : b1 < 1000000 := b11
        have b21' : b2 < 1000000000 := b21
        rcases List.mem_cons.mp hbv with rfl | hbv
        · exact ⟨0, rfl, by omega, by omega⟩
        rcases List.mem_cons.mp hbv with rfl | hbv
        · exact ⟨3, rfl, by omega, by omega⟩
        rcases List.mem_cons.mp hbv with rfl | hbv
        · exact ⟨13, rfl, by omega, by omega⟩
        rcases List.mem_cons.mp hbv with rfl | hbv
        · exact ⟨b1, rfl, b10, by omega⟩
        rcases List.mem_cons.mp hbv with rfl | hbv
        · exact ⟨b2, rfl, b20, by omega⟩
        · cases hbv
      have sx15 : SameX l H1 H5 := SameX.trans sx2 (SameX.trans sx3 (SameX.trans sx4 (SameX.trans (sxNew (SameX.of (Same.refl H4)) hL2) sx5)))
      have hr5 : H5 L1 = some (.lst (r.map V.int)) := by
        refine sx5 _ _ nlL1.symm ?_
        exact old (sx4 _ _ nlL1.symm (sx3 _ _ nlL1.symm hr2)) hL2
      -- times
      refine ⟨_, rfl, ?_⟩
      refine ⟨1, rfl, _, _, rfl, rfl, ⟨by decide, by decide, by decide⟩, _, rfl, ?_⟩
      refine ⟨(by show 5 ≤ sizeLine; decide), fun L3 hL3 => ?_⟩
      refine ⟨l, L3, _, rfl, pot5.other (pot5.ne hL3), upd_same, (pot5.ne hL3).symm, (by show 1 ≤ 5; decide), (by show 5 ≤ 1000; decide), fun H6 tv sx6 pot6 htv => ?_⟩
      obtain ⟨times, rfl, tm⟩ : ∃ times : Int, tv = V.int times ∧ times.natAbs < 2 ^ 40 := by
        rcases List.mem_cons.mp htv with rfl | htv
        · exact ⟨1, rfl, by decide⟩
        rcases List.mem_cons.mp htv with rfl | htv
        · exact ⟨1, rfl, by decide⟩
        rcases List.mem_cons.mp htv with rfl | htv
        · exact ⟨-1, rfl, by decide⟩
        rcases List.mem_cons.mp htv with rfl | htv
        · exact ⟨7, rfl, by decide⟩
        rcases List.mem_cons.mp htv with rfl | htv
        · exact ⟨_, rfl, by decide⟩
        · cases htv
      have hr6 : H6 L1 = some (.lst (r.map V.int)) := sx6 _ _ nlL1.symm (old hr5 hL3)
      have sx16 : SameX l H1 H6 := SameX.trans sx15 (SameX.trans (sxNew (SameX.of (Same.refl H5)) hL3) sx6)
      -- from here on nothing draws: all is new beside H6
      refine ⟨_, rfl, _, rfl, L1, r, back, rfl, SqL.of hr6, by omega, bk0, bk1, fun H7 lm s7 nlm hlm => ?_⟩
      refine ⟨lm, rfl, ⟨_, SqL.of hlm⟩, fun L4 hL4 => ?_⟩
      have bk40 : back.natAbs < 2 ^ 30 := by omega
      have bmv : Bd 190 (movedR back r) := (bd_movedR (n := 4) bk40 (bd_nine hr9)).mono (by
        have : (30 + 1) * r.length ≤ 31 * 6 := Nat.mul_le_mul (by omega) hrlen
        omega)
      refine lc_it (walk_list (K := K) (a := lm) (xs := (movedR back r).map V.int)) (fun i H' => Same H7 H' ∧ H' L4 = some (.lst (((scaleR times (movedR back r)).take i).map V.int))) ⟨sNew (Same.refl H7) hL4, upd_same⟩ (fun i H' _ h => SqL.of (h.1 _ _ hlm)) ?_ ?_
      · rintro i x _ H8 hi ⟨s8, hw8⟩ ⟨rfl, hx⟩
        obtain ⟨z, hz, rfl⟩ := map_get hx
        refine ⟨rfl, _, rfl, _, rfl, _, _, rfl, rfl, wide_mul (a := 40) (b := 190) tm (bmv z (List.mem_of_getElem? hz)) (by omega) (by omega) (by omega), _, hw8, ?_, sPut s8 hL4, ?_⟩
        · have : i < (movedR back r).length := by simpa using hi
          rw [len_movedR] at this
          simp only [List.length_map, List.length_take]
          exact lt_line (by omega)
        · rw [upd_same]
          congr 2
          refine take_succ_map (f := V.int) ?_
          unfold scaleR
          rw [List.getElem?_map, hz]; rfl
      rintro H8 ⟨s8, hw8⟩
      have hsl : (scaleR times (movedR back r)).length = r.length := by unfold scaleR; rw [List.length_map, len_movedR]
      rw [List.take_of_length_le (by rw [List.length_map, hsl, len_movedR]; exact Nat.le_refl _)] at hw8
      refine ⟨L4, _, 230, rfl, SqL.of hw8, bd_scaleR tm bmv, by omega, by omega, fun H9 pm c s9 npm hpc can hev hbc hcl => ?_⟩
      have s69 : Same H6 H9 := Same.trans s7 (Same.trans s8 s9)
      refine ⟨_, rfl, _, rfl, _, rfl, L1, r, back, times, rfl, SqL.of (s69 _ _ hr6), hr9, by omega, bk0, bk1, tm, fun HA ld L sA nld hLd hruns hLlen => ?_⟩
      refine ⟨_, _, rfl, ?_⟩
      have hevc : ∀ d, sgn (ev c d) = gLaw r back times d := fun d => by
        show sgn (ev c d) = sgn (times * ev r (d - back))
        rw [hev, ev_scaleR, ev_movedR]
      have hrunc : IsRuns (fun d => sgn (ev c d)) 1 L := hruns.congr (fun d _ => (hevc d).symm)
      have hb400 : Bd 400 c := hbc.mono (by omega)
      have hc8 : c.length ≤ 8 := by omega
      have s6A : Same H6 HA := Same.trans s69 sA
      -- sign_runs(made) != due
      refine ⟨_, rfl, pm, c, rfl, hpc.same sA, can, hb400, hc8, fun HB lB LB sB nlB hLB hrB hLBl => ?_⟩
      have eB : LB = L := hrB.uniq hrunc
      subst eB
      refine ⟨_, rfl, dPairs LB, dPairs LB, dp_pairs hLB, dp_pairs (hLd.same sB), sh_pairs _, sh_pairs _, _, rfl, ?_⟩
      rw [eqv_pairs_self]
      refine iteF ?_
      -- sign_runs(-made) != the opposite
      refine ⟨_, rfl, pm, c, rfl, hpc.same (Same.trans sA sB), by omega, fun HC pn cn kn sC npn hpn en cann => ?_⟩
      have hevn : ∀ x, ev cn x = - ev c x := fun x => by rw [row_ev en, ev_oppR]
      have hbn : Bd 400 cn := row_bd en hb400.opp
      have hcnl : cn.length ≤ 8 := by
        have h3 : (oppR c).length = cn.length + kn := by rw [en]; simp
        unfold oppR at h3
        rw [List.length_map] at h3
        omega
      refine ⟨pn, cn, rfl, hpn, cann, hbn, hcnl, fun HD lD LD sD nlD hLD hrD hLDl => ?_⟩
      have eD : LD = LB.map (fun p => (p.1, 0 - p.2)) := by
        refine hrD.uniq ?_
        refine IsRuns.congr (fun d _ => ?_) (hrunc.map (f := fun v => 0 - v) (fun x y e => by omega))
        show 0 - sgn (ev c d) = sgn (ev cn d)
        rw [hevn, sgn_opp]; omega
      subst eD
      have sAD : Same HA HD := Same.trans sB (Same.trans sC sD)
      obtain ⟨dv, hd1, hd2⟩ := hLd.same sAD
      refine ⟨_, rfl, ld, rfl, ⟨_, SqL.of hd1⟩, fun L5 hL5 => ?_⟩
      refine lc_it (walk_list (K := K) (a := ld) (xs := dv)) (fun j H' => Same HD H' ∧ RunsAt H' L5 ((LB.map (fun p => (p.1, 0 - p.2))).take j)) ⟨sNew (Same.refl HD) hL5, [], upd_same, trivial⟩ (fun j H' _ h => SqL.of (h.1 _ _ hd1)) ?_ ?_
      · rintro j x _ HE hj ⟨sE, acc, a1, a2⟩ ⟨rfl, hx⟩
        obtain ⟨pr, tr, hpr, rfl, htr⟩ := hd2.get hx
        refine ⟨tr, _, rfl, .inl (.inl (sE _ _ htr)), rfl, _, _, rfl, _, _, rfl, rfl, rfl, ?_⟩
        refine ⟨_, rfl, _, rfl, _, _, rfl, rfl, (by show 2 ≤ sizeLine; decide), fun tq htq => ?_⟩
        have ntl : tq ≠ L5 := fun e => by rw [e, a1] at htq; cases htq
        refine ⟨acc, old a1 htq, ?_, sPut (sNew sE htq) hL5, ?_⟩
        · rw [a2.len, List.length_take, List.length_map]; exact lt_line (by omega)
        · have e : (LB.map (fun p => (p.1, 0 - p.2))).take (j + 1) = (LB.map (fun p => (p.1, 0 - p.2))).take j ++ [(pr.1, 0 - pr.2)] := by
            rw [List.take_add_one, List.getElem?_map, hpr]; rfl
          rw [e]
          exact ⟨_, upd_same, Tups.append (tups_but (fun b o hb e => by rw [upd_ne hb]; exact old e htq) a1 a2) (Tups.one (by rw [upd_ne ntl, upd_same]))⟩
      rintro HE ⟨sE, hrE⟩
      rw [List.take_of_length_le (by rw [List.length_map, hd2.len]; exact Nat.le_refl _)] at hrE
      refine ⟨dPairs (LB.map (fun p => (p.1, 0 - p.2))), dPairs (LB.map (fun p => (p.1, 0 - p.2))), dp_pairs (hLD.same sE), dp_pairs hrE, sh_pairs _, sh_pairs _, _, rfl, ?_⟩
      rw [eqv_pairs_self]
      refine iteF ?_
      have sAE : Same HA HE := Same.trans sAD sE
      -- told
      refine ⟨_, rfl, pm, c, rfl, hpc.same (Same.trans sA sAE), can, hb400, hc8, fun HF lF LF sF nlF hLF hrF hLFl => ?_⟩
      obtain ⟨fv, hf1, hf2⟩ := hLF
      refine ⟨_, rfl, .inl ⟨rfl, _, SqL.of hf1⟩, (by show 2 ≤ sizeLine; decide), fun t5 ht5 => ?_⟩
      refine ⟨lF, _, _, rfl, rfl, old hf1 ht5, by rw [hf2.len]; exact lt_line (by omega), ?_⟩
      have sEG : Same HE (upd (upd HF t5 (.tup [V.int 5, V.int 5])) lF (.lst (fv ++ [V.ref t5]))) := sPut (sNew sF ht5) nlF
      generalize upd (upd HF t5 (.tup [V.int 5, V.int 5])) lF (.lst (fv ++ [V.ref t5])) = HG at sEG ⊢
      have sAG : Same HA HG := Same.trans sAE sEG
      -- again
      refine ⟨_, rfl, pm, c, rfl, hpc.same (Same.trans sA sAG), can, hb400, hc8, fun HH lH LH sH nlH hLH hrH hLHl => ?_⟩
      have eH : LH = LB := hrH.uniq hrunc
      subst eH
      refine ⟨_, rfl, dPairs LH, dPairs LH, dp_pairs hLH, dp_pairs (hLd.same (Same.trans sAG sH)), sh_pairs _, sh_pairs _, _, rfl, ?_⟩
      rw [eqv_pairs_self]
      refine iteF ?_
      refine ⟨[0, 1], rfl, (by decide), fun HI p4 c4 k4 sI n4 hc4 e4 can4 => ?_⟩
      have ec4 := trim_01 e4
      subst ec4
      have sAI : Same HA HI := Same.trans sAG (Same.trans sH sI)
      refine ⟨_, rfl, p4, pm, [0, 1], c, rfl, rfl, hc4, hpc.same (Same.trans sA sAI), by decide, by omega, ⟨1, 400, bd_01, hb400, by omega, by omega⟩, fun HJ pj cj kj sJ npj hpj ej canj => ?_⟩
      have hbj : Bd 400 cj := (row_bd ej (Bd.mul bd_01 hbc (by simp only [List.length_cons, List.length_nil]; omega))).mono (by omega)
      have hcjl : cj.length ≤ 8 := by
        have h3 : (mulR [0, 1] c).length = cj.length + kj := by rw [ej]; simp
        rw [len_mulR] at h3
        simp only [List.length_cons, List.length_nil] at h3
        omega
      refine ⟨pj, cj, rfl, hpj, canj, hbj, hcjl, fun HK lK LK sK nlK hLK hrK hLKl => ?_⟩
      have eK : LK = LH := by
        refine hrK.uniq (IsRuns.congr (fun d hd => ?_) hrunc)
        rw [row_ev ej, ev_mulR]
        show sgn (ev c d) = sgn ((0 + d * (1 + d * 0)) * ev c d)
        rw [show (0 + d * (1 + d * 0) : Int) = d by omega, sgn_mul, sgn_pos hd, Int.one_mul]
      subst eK
      refine ⟨_, rfl, dPairs LK, dPairs LK, dp_pairs hLK, dp_pairs (hLd.same (Same.trans sAI (Same.trans sJ sK))), sh_pairs _, sh_pairs _, _, rfl, ?_⟩
      rw [eqv_pairs_self]
      refine iteF ?_
      have s6K : Same H6 HK := Same.trans s6A (Same.trans sAI (Same.trans sJ sK))
      exact ⟨SameX.trans sx0 (SameX.trans sx1 (SameX.same sx16 s6K)), pot6.same s6K, _, _, _, _, _, _, _, rfl⟩
    · rintro σ H' ⟨sx, pot, _⟩
      exact q H' sx
/-! ### law -/
def spLaw (K : PySem.W.Frag) : Sp := fun vs H Q _ => ∃ (a : Addr) (ns : List Int), vs = [.ref a] ∧ SqL K H a (ns.map V.int) ∧ ns.length ≤ 63 ∧ ∀ H', Q (.bl true) H'
abbrev nLaw : List Str := ["_law_script", "_law_k"]
theorem scLaw : FnScope nLaw ["_law_script"] (defScope sLaw) := ⟨rfl, rfl, rfl, by decide +kernel, rfl, by decide +kernel, by decide +kernel⟩
def teLaw (K : PySem.W.Frag) : TE := tCall spRight [] E0 (tCons (tCall (spPot K) [] E0 (tCons (tVar 0) (tCons (tVar 1) tNil))) tNil)
theorem ok_law {f : Addr} {fd : FuncData} (F : Fun K "law" "law" sLaw f fd) (T : Bn mg) (DP : Df P w K mg base "_law_pot" ["_law_script", "_law_k"] 1 (spPot K)) (DR : Df P w K mg base "_law_right" ["_law_pot_here"] 7 spRight) : FnOk P w K mg base CX0 8 f fd ["_law_script"] (spLaw K) := by
  refine F.ok scLaw (fun vs H Q E h => ?_) (fun cdv A outer s H vs Q E hr h => ?_)
  · obtain ⟨a, ns, rfl, _⟩ := h
    rfl
  · obtain ⟨a, ns, rfl, ha, hlen, q⟩ := h
    have h1 : Room 1 _ := hr.mono (by decide)
    refine ⟨_, pss_one (ps_ret (pe_callB (cr_all rfl) (by rfl) T.all (by decide +kernel) (pa_cons (pe_lc (own := [("_law_k", 1)]) (g := gName 1) (tt := tYes) (te := teLaw K) (by rfl) scLaw.nd
        (pi_range1 (by rfl) T.range (pa_cons (pe_callB (call_max2 rfl) (by rfl) T.max (by decide +kernel) (pa_cons pe_int (pa_cons (pe_callB (call_min2 rfl) (by rfl) T.min (by decide +kernel) (pa_cons pe_int (pa_cons (pe_callB call_len_seq (by rfl) T.len PySem.boot_len (pa_cons (pv 0) pa_nil)) pa_nil))) pa_nil))) pa_nil))
        (blkOk_by (own := [("_law_k", 1)]) (N := nLaw) (sc := defScope sLaw) (by decide +kernel))
        (fun _ _ _ _ _ => pg_name (i := 1) scLaw.nd rfl (Or.inl rfl)) (fun _ _ _ _ _ => pts_nil)
        (fun _ _ _ _ _ => pe_df DR hr (by rfl) (pa_cons (pe_df DP h1 (by rfl) (pa_cons (pv 0) (pa_cons (pv 1) pa_nil))) pa_nil))) pa_nil))), ?_⟩
    refine ⟨_, rfl, a, _, rfl, .inl ha, _, _, rfl, _, _, rfl, ?_⟩
    obtain ⟨kk, hkk⟩ : ∃ kk : Int, kk = (if (if (((ns.map V.int).length : Nat) : Int) < 4 then (((ns.map V.int).length : Nat) : Int) else 4) > 1 then (if (((ns.map V.int).length : Nat) : Int) < 4 then (((ns.map V.int).length : Nat) : Int) else 4) else 1) := ⟨_, rfl⟩
    have hk4 : 1 ≤ kk ∧ kk ≤ 4 := by
      rw [hkk]; split <;> split <;> omega
    refine ⟨kk, by rw [hkk], by omega, by omega, fun D hD => ?_⟩
    clear hkk
    refine lc_it (walk_range (lo := 0) (n := kk.toNat)) (fun i H' => Same H H' ∧ H' D = some (.lst ((List.replicate i true).map V.bl))) ⟨sNew (Same.refl H) hD, upd_same⟩ (fun _ _ _ _ => trivial) ?_ ?_
    · rintro i x _ H1 hi ⟨s1, hw⟩ ⟨rfl, rfl⟩
      have e0 : (0 : Int) + (i : Nat) = (i : Nat) := by omega
      refine ⟨rfl, _, rfl, _, rfl, a, ns, i, (by show [V.ref a, V.int ((0 : Int) + (i : Nat))] = [V.ref a, V.int ((i : Nat) : Int)]; rw [e0]), s1.seq ha, by omega, by omega, fun H2 l s2 nl pot => ?_⟩
      refine ⟨l, rfl, pot, fun H3 sx => ?_⟩
      have nDl : D ≠ l := ne_of_none hw nl
      have s13 : Same H1 H3 := fun b o e => sx b o (ne_of_none e nl) (s2 _ _ e)
      refine ⟨_, s13 _ _ hw, ?_, sPut (Same.trans s1 s13) hD, ?_⟩
      · rw [List.length_map, List.length_replicate]; exact lt_line (by omega)
      · rw [upd_same, List.replicate_succ', List.map_append]; rfl
    · rintro H1 ⟨s1, hw⟩
      refine ⟨D, _, rfl, SqL.of hw, ?_⟩
      have e : (List.replicate kk.toNat true).all id = true := by simp
      rw [e]
      exact q H1
end
end S75

namespace S75
open PySem L2 SR
section
variable {P : Program} {w : World} {K : PySem.W.Frag} {mg : Str → Option Value} {base : Heap}
theorem df_of {x : Str} {ps : List Str} {k : Nat} {sp : Sp} {f : Addr} {fd : FuncData} {st : Stmt} (F : Fun K x x st f fd) (hm : mg x = some (.ref f)) (b : Binds K fd ps []) (G : FnOk P w K mg base CX0 k f fd ps sp) : Df P w K mg base x ps k sp := ⟨f, fd, hm, F.kp, b, G⟩
theorem raw0 {f : Addr} {fd : FuncData} {ps : List Str} {k : Nat} {sp : Sp} (G : FnOk P w K mg base CX0 k f fd ps sp) (b : Binds K fd ps []) : FnR P w K mg base CX0 k f sp := FnR.imp (FnOk.raw (dvs := []) G b .nil) fun vs H Q E h => by rw [List.append_nil]; exact h
end
theorem all_mk {l : PySem.W.OpenLaw} {w : World} {K : PySem.W.Frag} {h : Heap} {mg : Str → Option Value} {fa f0 f1 f2 f3 f4 f5 f6 f7 f8 f9 f10 f11 f12 f13 f14 f15 f16 f17 f18 f19 f20 f21 fm0 fm1 fm2 fm3 fm4 fm5 fm6 fmd pd C : Addr} (X : K.In h) (G : h.Ns mainGlobals mg) (hfa : mg "law" = some (.ref fa))
    {od0 an0 : Option Addr} {sl0 : Array (Option Value)} {oc0 kV0 dc0 pm0 cd0 ct0 : Value}
    {od1 an1 : Option Addr} {sl1 : Array (Option Value)} {oc1 kV1 dc1 pm1 cd1 ct1 : Value}
    {od2 an2 : Option Addr} {sl2 : Array (Option Value)} {oc2 kV2 dc2 pm2 cd2 ct2 : Value}
    {od3 an3 : Option Addr} {sl3 : Array (Option Value)} {oc3 kV3 dc3 pm3 cd3 ct3 : Value}
    {od4 an4 : Option Addr} {sl4 : Array (Option Value)} {oc4 kV4 dc4 pm4 cd4 ct4 : Value}
    {od5 an5 : Option Addr} {sl5 : Array (Option Value)} {oc5 kV5 dc5 pm5 cd5 ct5 : Value}
    {od6 an6 : Option Addr} {sl6 : Array (Option Value)} {oc6 kV6 dc6 pm6 cd6 ct6 : Value}
    {od7 an7 : Option Addr} {sl7 : Array (Option Value)} {oc7 kV7 dc7 pm7 cd7 ct7 : Value}
    {od8 an8 : Option Addr} {sl8 : Array (Option Value)} {oc8 kV8 dc8 pm8 cd8 ct8 : Value}
    {od9 an9 : Option Addr} {sl9 : Array (Option Value)} {oc9 kV9 dc9 pm9 cd9 ct9 : Value}
    {od10 an10 : Option Addr} {sl10 : Array (Option Value)} {oc10 kV10 dc10 pm10 cd10 ct10 : Value}
    {od11 an11 : Option Addr} {sl11 : Array (Option Value)} {oc11 kV11 dc11 pm11 cd11 ct11 : Value}
    {od12 an12 : Option Addr} {sl12 : Array (Option Value)} {oc12 kV12 dc12 pm12 cd12 ct12 : Value}
    {od13 an13 : Option Addr} {sl13 : Array (Option Value)} {oc13 kV13 dc13 pm13 cd13 ct13 : Value}
    {od14 an14 : Option Addr} {sl14 : Array (Option Value)} {oc14 kV14 dc14 pm14 cd14 ct14 : Value}
    {od15 an15 : Option Addr} {sl15 : Array (Option Value)} {oc15 kV15 dc15 pm15 cd15 ct15 : Value}
    {od16 an16 : Option Addr} {sl16 : Array (Option Value)} {oc16 kV16 dc16 pm16 cd16 ct16 : Value}
    {od17 an17 : Option Addr} {sl17 : Array (Option Value)} {oc17 kV17 dc17 pm17 cd17 ct17 : Value}
    {od18 an18 : Option Addr} {sl18 : Array (Option Value)} {oc18 kV18 dc18 pm18 cd18 ct18 : Value}
    {od19 an19 : Option Addr} {sl19 : Array (Option Value)} {oc19 kV19 dc19 pm19 cd19 ct19 : Value}
    {od20 an20 : Option Addr} {sl20 : Array (Option Value)} {oc20 kV20 dc20 pm20 cd20 ct20 : Value}
    {od21 an21 : Option Addr} {sl21 : Array (Option Value)} {oc21 kV21 dc21 pm21 cd21 ct21 : Value}
    {odm0 anm0 : Option Addr} {slm0 : Array (Option Value)} {ocm0 kVm0 dcm0 pmm0 cdm0 ctm0 : Value}
    {odm1 anm1 : Option Addr} {slm1 : Array (Option Value)} {ocm1 kVm1 dcm1 pmm1 cdm1 ctm1 : Value}
    {odm2 anm2 : Option Addr} {slm2 : Array (Option Value)} {ocm2 kVm2 dcm2 pmm2 cdm2 ctm2 : Value}
    {odm3 anm3 : Option Addr} {slm3 : Array (Option Value)} {ocm3 kVm3 dcm3 pmm3 cdm3 ctm3 : Value}
    {odm4 anm4 : Option Addr} {slm4 : Array (Option Value)} {ocm4 kVm4 dcm4 pmm4 cdm4 ctm4 : Value}
    {odm5 anm5 : Option Addr} {slm5 : Array (Option Value)} {ocm5 kVm5 dcm5 pmm5 cdm5 ctm5 : Value}
    {odm6 anm6 : Option Addr} {slm6 : Array (Option Value)} {ocm6 kVm6 dcm6 pmm6 cdm6 ctm6 : Value}
    {rd : List Value}
    {odmd anmd : Option Addr} {slmd : Array (Option Value)} {ocmd kVmd dcmd pmmd cdmd ctmd : Value}
    (a0 : PySem.W.nsIn K mainGlobals "is_integer" = some (some (.ref f0)))
    (l0 : K.lookup f0 = some ⟨oc0, od0, .func (PySem.W.fnOf "is_integer" "is_integer" (defArgs sIsInt) (defBody sIsInt) (defScope sIsInt) .none kV0 dc0 pm0 an0 cd0 ct0), sl0⟩)
    (c0 : PySem.W.codeIn K cd0 "is_integer" = true)
    (k0 : PySem.W.keepIn K (.ref f0) = true)
    (a1 : PySem.W.nsIn K mainGlobals "added_rows" = some (some (.ref f1)))
    (l1 : K.lookup f1 = some ⟨oc1, od1, .func (PySem.W.fnOf "added_rows" "added_rows" (defArgs sAdded) (defBody sAdded) (defScope sAdded) .none kV1 dc1 pm1 an1 cd1 ct1), sl1⟩)
    (c1 : PySem.W.codeIn K cd1 "added_rows" = true)
    (k1 : PySem.W.keepIn K (.ref f1) = true)
    (a2 : PySem.W.nsIn K mainGlobals "multiplied_rows" = some (some (.ref f2)))
    (l2 : K.lookup f2 = some ⟨oc2, od2, .func (PySem.W.fnOf "multiplied_rows" "multiplied_rows" (defArgs sMult) (defBody sMult) (defScope sMult) .none kV2 dc2 pm2 an2 cd2 ct2), sl2⟩)
    (c2 : PySem.W.codeIn K cd2 "multiplied_rows" = true)
    (k2 : PySem.W.keepIn K (.ref f2) = true)
    (a3 : PySem.W.nsIn K mainGlobals "opposite_row" = some (some (.ref f3)))
    (l3 : K.lookup f3 = some ⟨oc3, od3, .func (PySem.W.fnOf "opposite_row" "opposite_row" (defArgs sOpp) (defBody sOpp) (defScope sOpp) .none kV3 dc3 pm3 an3 cd3 ct3), sl3⟩)
    (c3 : PySem.W.codeIn K cd3 "opposite_row" = true)
    (k3 : PySem.W.keepIn K (.ref f3) = true)
    (a4 : PySem.W.nsIn K mainGlobals "row_of" = some (some (.ref f4)))
    (l4 : K.lookup f4 = some ⟨oc4, od4, .func (PySem.W.fnOf "row_of" "row_of" (defArgs sRowOf) (defBody sRowOf) (defScope sRowOf) .none kV4 dc4 pm4 an4 cd4 ct4), sl4⟩)
    (c4 : PySem.W.codeIn K cd4 "row_of" = true)
    (k4 : PySem.W.keepIn K (.ref f4) = true)
    (a5 : PySem.W.nsIn K mainGlobals "sign_at" = some (some (.ref f5)))
    (l5 : K.lookup f5 = some ⟨oc5, od5, .func (PySem.W.fnOf "sign_at" "sign_at" (defArgs sSignAt) (defBody sSignAt) (defScope sSignAt) .none kV5 dc5 pm5 an5 cd5 ct5), sl5⟩)
    (c5 : PySem.W.codeIn K cd5 "sign_at" = true)
    (k5 : PySem.W.keepIn K (.ref f5) = true)
    (a6 : PySem.W.nsIn K mainGlobals "step_of" = some (some (.ref f6)))
    (l6 : K.lookup f6 = some ⟨oc6, od6, .func (PySem.W.fnOf "step_of" "step_of" (defArgs sStepOf) (defBody sStepOf) (defScope sStepOf) .none kV6 dc6 pm6 an6 cd6 ct6), sl6⟩)
    (c6 : PySem.W.codeIn K cd6 "step_of" = true)
    (k6 : PySem.W.keepIn K (.ref f6) = true)
    (a7 : PySem.W.nsIn K mainGlobals "first_other" = some (some (.ref f7)))
    (l7 : K.lookup f7 = some ⟨oc7, od7, .func (PySem.W.fnOf "first_other" "first_other" (defArgs sFirst) (defBody sFirst) (defScope sFirst) .none kV7 dc7 pm7 an7 cd7 ct7), sl7⟩)
    (c7 : PySem.W.codeIn K cd7 "first_other" = true)
    (k7 : PySem.W.keepIn K (.ref f7) = true)
    (a8 : PySem.W.nsIn K mainGlobals "runs_in" = some (some (.ref f8)))
    (l8 : K.lookup f8 = some ⟨oc8, od8, .func (PySem.W.fnOf "runs_in" "runs_in" (defArgs sRunsIn) (defBody sRunsIn) (defScope sRunsIn) .none kV8 dc8 pm8 an8 cd8 ct8), sl8⟩)
    (c8 : PySem.W.codeIn K cd8 "runs_in" = true)
    (k8 : PySem.W.keepIn K (.ref f8) = true)
    (a9 : PySem.W.nsIn K mainGlobals "joined_runs" = some (some (.ref f9)))
    (l9 : K.lookup f9 = some ⟨oc9, od9, .func (PySem.W.fnOf "joined_runs" "joined_runs" (defArgs sJoined) (defBody sJoined) (defScope sJoined) .none kV9 dc9 pm9 an9 cd9 ct9), sl9⟩)
    (c9 : PySem.W.codeIn K cd9 "joined_runs" = true)
    (k9 : PySem.W.keepIn K (.ref f9) = true)
    (a10 : PySem.W.nsIn K mainGlobals "one_sign" = some (some (.ref f10)))
    (l10 : K.lookup f10 = some ⟨oc10, od10, .func (PySem.W.fnOf "one_sign" "one_sign" (defArgs sOneSign) (defBody sOneSign) (defScope sOneSign) .none kV10 dc10 pm10 an10 cd10 ct10), sl10⟩)
    (c10 : PySem.W.codeIn K cd10 "one_sign" = true)
    (k10 : PySem.W.keepIn K (.ref f10) = true)
    (a11 : PySem.W.nsIn K mainGlobals "sign_runs" = some (some (.ref f11)))
    (l11 : K.lookup f11 = some ⟨oc11, od11, .func (PySem.W.fnOf "sign_runs" "sign_runs" (defArgs sSignRuns) (defBody sSignRuns) (defScope sSignRuns) .none kV11 dc11 pm11 an11 cd11 ct11), sl11⟩)
    (c11 : PySem.W.codeIn K cd11 "sign_runs" = true)
    (k11 : PySem.W.keepIn K (.ref f11) = true)
    (a12 : PySem.W.nsIn K mainGlobals "_law_pot" = some (some (.ref f12)))
    (l12 : K.lookup f12 = some ⟨oc12, od12, .func (PySem.W.fnOf "_law_pot" "_law_pot" (defArgs sPot) (defBody sPot) (defScope sPot) .none kV12 dc12 pm12 an12 cd12 ct12), sl12⟩)
    (c12 : PySem.W.codeIn K cd12 "_law_pot" = true)
    (k12 : PySem.W.keepIn K (.ref f12) = true)
    (a13 : PySem.W.nsIn K mainGlobals "_law_digit" = some (some (.ref f13)))
    (l13 : K.lookup f13 = some ⟨oc13, od13, .func (PySem.W.fnOf "_law_digit" "_law_digit" (defArgs sDigit) (defBody sDigit) (defScope sDigit) .none kV13 dc13 pm13 an13 cd13 ct13), sl13⟩)
    (c13 : PySem.W.codeIn K cd13 "_law_digit" = true)
    (k13 : PySem.W.keepIn K (.ref f13) = true)
    (a14 : PySem.W.nsIn K mainGlobals "_law_pick" = some (some (.ref f14)))
    (l14 : K.lookup f14 = some ⟨oc14, od14, .func (PySem.W.fnOf "_law_pick" "_law_pick" (defArgs sPick) (defBody sPick) (defScope sPick) .none kV14 dc14 pm14 an14 cd14 ct14), sl14⟩)
    (c14 : PySem.W.codeIn K cd14 "_law_pick" = true)
    (k14 : PySem.W.keepIn K (.ref f14) = true)
    (a15 : PySem.W.nsIn K mainGlobals "_law_value" = some (some (.ref f15)))
    (l15 : K.lookup f15 = some ⟨oc15, od15, .func (PySem.W.fnOf "_law_value" "_law_value" (defArgs sValue) (defBody sValue) (defScope sValue) .none kV15 dc15 pm15 an15 cd15 ct15), sl15⟩)
    (c15 : PySem.W.codeIn K cd15 "_law_value" = true)
    (k15 : PySem.W.keepIn K (.ref f15) = true)
    (a16 : PySem.W.nsIn K mainGlobals "_law_sign" = some (some (.ref f16)))
    (l16 : K.lookup f16 = some ⟨oc16, od16, .func (PySem.W.fnOf "_law_sign" "_law_sign" (defArgs sSign) (defBody sSign) (defScope sSign) .none kV16 dc16 pm16 an16 cd16 ct16), sl16⟩)
    (c16 : PySem.W.codeIn K cd16 "_law_sign" = true)
    (k16 : PySem.W.keepIn K (.ref f16) = true)
    (a17 : PySem.W.nsIn K mainGlobals "_law_moved" = some (some (.ref f17)))
    (l17 : K.lookup f17 = some ⟨oc17, od17, .func (PySem.W.fnOf "_law_moved" "_law_moved" (defArgs sMoved) (defBody sMoved) (defScope sMoved) .none kV17 dc17 pm17 an17 cd17 ct17), sl17⟩)
    (c17 : PySem.W.codeIn K cd17 "_law_moved" = true)
    (k17 : PySem.W.keepIn K (.ref f17) = true)
    (a18 : PySem.W.nsIn K mainGlobals "_law_poly" = some (some (.ref f18)))
    (l18 : K.lookup f18 = some ⟨oc18, od18, .func (PySem.W.fnOf "_law_poly" "_law_poly" (defArgs sPoly) (defBody sPoly) (defScope sPoly) .none kV18 dc18 pm18 an18 cd18 ct18), sl18⟩)
    (c18 : PySem.W.codeIn K cd18 "_law_poly" = true)
    (k18 : PySem.W.keepIn K (.ref f18) = true)
    (a19 : PySem.W.nsIn K mainGlobals "_law_due" = some (some (.ref f19)))
    (l19 : K.lookup f19 = some ⟨oc19, od19, .func (PySem.W.fnOf "_law_due" "_law_due" (defArgs sDue) (defBody sDue) (defScope sDue) .none kV19 dc19 pm19 an19 cd19 ct19), sl19⟩)
    (c19 : PySem.W.codeIn K cd19 "_law_due" = true)
    (k19 : PySem.W.keepIn K (.ref f19) = true)
    (a20 : PySem.W.nsIn K mainGlobals "_law_right" = some (some (.ref f20)))
    (l20 : K.lookup f20 = some ⟨oc20, od20, .func (PySem.W.fnOf "_law_right" "_law_right" (defArgs sRight) (defBody sRight) (defScope sRight) .none kV20 dc20 pm20 an20 cd20 ct20), sl20⟩)
    (c20 : PySem.W.codeIn K cd20 "_law_right" = true)
    (k20 : PySem.W.keepIn K (.ref f20) = true)
    (a21 : PySem.W.nsIn K mainGlobals "law" = some (some (.ref f21)))
    (l21 : K.lookup f21 = some ⟨oc21, od21, .func (PySem.W.fnOf "law" "law" (defArgs sLaw) (defBody sLaw) (defScope sLaw) .none kV21 dc21 pm21 an21 cd21 ct21), sl21⟩)
    (c21 : PySem.W.codeIn K cd21 "law" = true)
    (k21 : PySem.W.keepIn K (.ref f21) = true)
    (aC : PySem.W.nsIn K mainGlobals "Polynomial" = some (some (.ref C)))
    (am0 : PySem.W.findIn K (.ref C) "__init__" = some (some (.ref fm0)))
    (im0 : PySem.W.isFn K (.ref fm0) = true)
    (lm0 : K.lookup fm0 = some ⟨ocm0, odm0, .func (PySem.W.fnOf "__init__" "Polynomial.__init__" (defArgs sPInit) (defBody sPInit) (defScope sPInit) .none kVm0 dcm0 pmm0 anm0 cdm0 ctm0), slm0⟩)
    (cm0 : PySem.W.codeIn K cdm0 "Polynomial.__init__" = true)
    (km0 : PySem.W.keepIn K (.ref fm0) = true)
    (am1 : PySem.W.findIn K (.ref C) "coefficients" = some (some (.ref fm1)))
    (im1 : PySem.W.isFn K (.ref fm1) = true)
    (lm1 : K.lookup fm1 = some ⟨ocm1, odm1, .func (PySem.W.fnOf "coefficients" "Polynomial.coefficients" (defArgs sPCoef) (defBody sPCoef) (defScope sPCoef) .none kVm1 dcm1 pmm1 anm1 cdm1 ctm1), slm1⟩)
    (cm1 : PySem.W.codeIn K cdm1 "Polynomial.coefficients" = true)
    (km1 : PySem.W.keepIn K (.ref fm1) = true)
    (am2 : PySem.W.findIn K (.ref C) "at" = some (some (.ref fm2)))
    (im2 : PySem.W.isFn K (.ref fm2) = true)
    (lm2 : K.lookup fm2 = some ⟨ocm2, odm2, .func (PySem.W.fnOf "at" "Polynomial.at" (defArgs sPAt) (defBody sPAt) (defScope sPAt) .none kVm2 dcm2 pmm2 anm2 cdm2 ctm2), slm2⟩)
    (cm2 : PySem.W.codeIn K cdm2 "Polynomial.at" = true)
    (km2 : PySem.W.keepIn K (.ref fm2) = true)
    (am3 : PySem.W.findIn K (.ref C) "__add__" = some (some (.ref fm3)))
    (im3 : PySem.W.isFn K (.ref fm3) = true)
    (lm3 : K.lookup fm3 = some ⟨ocm3, odm3, .func (PySem.W.fnOf "__add__" "Polynomial.__add__" (defArgs sPAdd) (defBody sPAdd) (defScope sPAdd) .none kVm3 dcm3 pmm3 anm3 cdm3 ctm3), slm3⟩)
    (cm3 : PySem.W.codeIn K cdm3 "Polynomial.__add__" = true)
    (km3 : PySem.W.keepIn K (.ref fm3) = true)
    (am4 : PySem.W.findIn K (.ref C) "__sub__" = some (some (.ref fm4)))
    (im4 : PySem.W.isFn K (.ref fm4) = true)
    (lm4 : K.lookup fm4 = some ⟨ocm4, odm4, .func (PySem.W.fnOf "__sub__" "Polynomial.__sub__" (defArgs sPSub) (defBody sPSub) (defScope sPSub) .none kVm4 dcm4 pmm4 anm4 cdm4 ctm4), slm4⟩)
    (cm4 : PySem.W.codeIn K cdm4 "Polynomial.__sub__" = true)
    (km4 : PySem.W.keepIn K (.ref fm4) = true)
    (am5 : PySem.W.findIn K (.ref C) "__mul__" = some (some (.ref fm5)))
    (im5 : PySem.W.isFn K (.ref fm5) = true)
    (lm5 : K.lookup fm5 = some ⟨ocm5, odm5, .func (PySem.W.fnOf "__mul__" "Polynomial.__mul__" (defArgs sPMul) (defBody sPMul) (defScope sPMul) .none kVm5 dcm5 pmm5 anm5 cdm5 ctm5), slm5⟩)
    (cm5 : PySem.W.codeIn K cdm5 "Polynomial.__mul__" = true)
    (km5 : PySem.W.keepIn K (.ref fm5) = true)
    (am6 : PySem.W.findIn K (.ref C) "__neg__" = some (some (.ref fm6)))
    (im6 : PySem.W.isFn K (.ref fm6) = true)
    (lm6 : K.lookup fm6 = some ⟨ocm6, odm6, .func (PySem.W.fnOf "__neg__" "Polynomial.__neg__" (defArgs sPNeg) (defBody sPNeg) (defScope sPNeg) .none kVm6 dcm6 pmm6 anm6 cdm6 ctm6), slm6⟩)
    (cm6 : PySem.W.codeIn K cdm6 "Polynomial.__neg__" = true)
    (km6 : PySem.W.keepIn K (.ref fm6) = true)
    (ad : PySem.W.findIn K (.ref C) "degree" = some (some (.ref pd)))
    (gd : PySem.W.specialIn K (.ref pd) "__get__" = some (some (.builtin "property.__get__")))
    (td : PySem.W.takesIn K (.ref pd) = some true)
    (rcd : PySem.W.recIn K pd "property" = some (.ref fmd :: rd))
    (lmd : K.lookup fmd = some ⟨ocmd, odmd, .func (PySem.W.fnOf "degree" "Polynomial.degree" (defArgs sPDeg) (defBody sPDeg) (defScope sPDeg) .none kVmd dcmd pmmd anmd cdmd ctmd), slmd⟩)
    (cmd : PySem.W.codeIn K cdmd "Polynomial.degree" = true)
    (kmd : PySem.W.keepIn K (.ref fmd) = true)
    (pg : PySem.W.plainGet K C Str.empty = true)
    (hd : PySem.W.hasDictIn K C = true)
    (po : PySem.W.plainOver K C = true)
    (sa : PySem.W.findIn K (.ref C) "__setattr__" = some (some (.builtin "object.__setattr__")))
    (mk : PySem.W.makesIn K C = true)
    (kc : PySem.W.keepIn K (.ref C) = true)
    (nR : PySem.W.findIn K (.ref C) "own_row" = some none)
    (ic : PySem.W.findIn K (.ref C) "__class__" = some (some (.builtin "object.__class__")))
    (gt : PySem.W.specialIn K (.builtin "object.__class__") "__get__" = some (some (.builtin "getset_descriptor.__get__")))
    (tk : PySem.W.takesIn K (.builtin "object.__class__") = some true)
    (mo : PySem.W.mroIn K C (.type "object") = some true)
    (sf : PySem.W.selfFirst K C = true)
    (z_isinstance : PySem.W.nsIn K mainGlobals "isinstance" = some none)
    (z_int : PySem.W.nsIn K mainGlobals "int" = some none)
    (z_bool : PySem.W.nsIn K mainGlobals "bool" = some none)
    (z_len : PySem.W.nsIn K mainGlobals "len" = some none)
    (z_list : PySem.W.nsIn K mainGlobals "list" = some none)
    (z_max : PySem.W.nsIn K mainGlobals "max" = some none)
    (z_min : PySem.W.nsIn K mainGlobals "min" = some none)
    (z_sum : PySem.W.nsIn K mainGlobals "sum" = some none)
    (z_zip : PySem.W.nsIn K mainGlobals "zip" = some none)
    (z_range : PySem.W.nsIn K mainGlobals "range" = some none)
    (z_tuple : PySem.W.nsIn K mainGlobals "tuple" = some none)
    (z_enumerate : PySem.W.nsIn K mainGlobals "enumerate" = some none)
    (z_any : PySem.W.nsIn K mainGlobals "any" = some none)
    (z_all : PySem.W.nsIn K mainGlobals "all" = some none)
    (z_abs : PySem.W.nsIn K mainGlobals "abs" = some none)
    (z_divmod : PySem.W.nsIn K mainGlobals "divmod" = some none)
    : ∃ fd : FuncData, (∀ (s : Shared) (v : Value), BindsTo s fd ⟨[v], []⟩ [("_law_script", v)]) ∧ ∀ base : Heap, K.In base → base.Ns mainGlobals mg → FnOk l.prog w K mg base CX0 8 fa fd ["_law_script"] (spLaw K) := by
  have e := hfa.symm.trans (PySem.W.mg_of X G a21)
  cases e
  have T : Bn mg := ⟨PySem.W.mg_none_of X G z_isinstance, PySem.W.mg_none_of X G z_int, PySem.W.mg_none_of X G z_bool, PySem.W.mg_none_of X G z_len, PySem.W.mg_none_of X G z_list, PySem.W.mg_none_of X G z_max, PySem.W.mg_none_of X G z_min, PySem.W.mg_none_of X G z_sum, PySem.W.mg_none_of X G z_zip, PySem.W.mg_none_of X G z_range, PySem.W.mg_none_of X G z_tuple, PySem.W.mg_none_of X G z_enumerate, PySem.W.mg_none_of X G z_any, PySem.W.mg_none_of X G z_all, PySem.W.mg_none_of X G z_abs, PySem.W.mg_none_of X G z_divmod⟩
  have F0 := fun_mk (x := "is_integer") (qual := "is_integer") (st := sIsInt) l0 c0 k0
  have b0 := F0.binds (ps := ["value"]) fun _ _ _ _ _ _ us hl => match us, hl with | [_], _ => rfl
  have g0 := PySem.W.mg_of X G a0
  have F1 := fun_mk (x := "added_rows") (qual := "added_rows") (st := sAdded) l1 c1 k1
  have b1 := F1.binds (ps := ["one", "other"]) fun _ _ _ _ _ _ us hl => match us, hl with | [_, _], _ => rfl
  have g1 := PySem.W.mg_of X G a1
  have F2 := fun_mk (x := "multiplied_rows") (qual := "multiplied_rows") (st := sMult) l2 c2 k2
  have b2 := F2.binds (ps := ["one", "other"]) fun _ _ _ _ _ _ us hl => match us, hl with | [_, _], _ => rfl
  have g2 := PySem.W.mg_of X G a2
  have F3 := fun_mk (x := "opposite_row") (qual := "opposite_row") (st := sOpp) l3 c3 k3
  have b3 := F3.binds (ps := ["row"]) fun _ _ _ _ _ _ us hl => match us, hl with | [_], _ => rfl
  have g3 := PySem.W.mg_of X G a3
  have F4 := fun_mk (x := "row_of") (qual := "row_of") (st := sRowOf) l4 c4 k4
  have b4 := F4.binds (ps := ["value"]) fun _ _ _ _ _ _ us hl => match us, hl with | [_], _ => rfl
  have g4 := PySem.W.mg_of X G a4
  have F5 := fun_mk (x := "sign_at") (qual := "sign_at") (st := sSignAt) l5 c5 k5
  have b5 := F5.binds (ps := ["polynomial", "d"]) fun _ _ _ _ _ _ us hl => match us, hl with | [_, _], _ => rfl
  have g5 := PySem.W.mg_of X G a5
  have F6 := fun_mk (x := "step_of") (qual := "step_of") (st := sStepOf) l6 c6 k6
  have b6 := F6.binds (ps := ["polynomial"]) fun _ _ _ _ _ _ us hl => match us, hl with | [_], _ => rfl
  have g6 := PySem.W.mg_of X G a6
  have F7 := fun_mk (x := "first_other") (qual := "first_other") (st := sFirst) l7 c7 k7
  have b7 := F7.binds (ps := ["polynomial", "sign", "start", "end"]) fun _ _ _ _ _ _ us hl => match us, hl with | [_, _, _, _], _ => rfl
  have g7 := PySem.W.mg_of X G a7
  have F8 := fun_mk (x := "runs_in") (qual := "runs_in") (st := sRunsIn) l8 c8 k8
  have b8 := F8.binds (ps := ["polynomial", "start", "end", "direction"]) fun _ _ _ _ _ _ us hl => match us, hl with | [_, _, _, _], _ => rfl
  have g8 := PySem.W.mg_of X G a8
  have F9 := fun_mk (x := "joined_runs") (qual := "joined_runs") (st := sJoined) l9 c9 k9
  have b9 := F9.binds (ps := ["runs"]) fun _ _ _ _ _ _ us hl => match us, hl with | [_], _ => rfl
  have g9 := PySem.W.mg_of X G a9
  have F10 := fun_mk (x := "one_sign") (qual := "one_sign") (st := sOneSign) l10 c10 k10
  have b10 := F10.binds (ps := ["row"]) fun _ _ _ _ _ _ us hl => match us, hl with | [_], _ => rfl
  have g10 := PySem.W.mg_of X G a10
  have F11 := fun_mk (x := "sign_runs") (qual := "sign_runs") (st := sSignRuns) l11 c11 k11
  have b11 := F11.binds (ps := ["polynomial"]) fun _ _ _ _ _ _ us hl => match us, hl with | [_], _ => rfl
  have g11 := PySem.W.mg_of X G a11
  have F12 := fun_mk (x := "_law_pot") (qual := "_law_pot") (st := sPot) l12 c12 k12
  have b12 := F12.binds (ps := ["_law_script", "_law_k"]) fun _ _ _ _ _ _ us hl => match us, hl with | [_, _], _ => rfl
  have g12 := PySem.W.mg_of X G a12
  have F13 := fun_mk (x := "_law_digit") (qual := "_law_digit") (st := sDigit) l13 c13 k13
  have b13 := F13.binds (ps := ["_law_pot_here", "_law_many"]) fun _ _ _ _ _ _ us hl => match us, hl with | [_, _], _ => rfl
  have g13 := PySem.W.mg_of X G a13
  have F14 := fun_mk (x := "_law_pick") (qual := "_law_pick") (st := sPick) l14 c14 k14
  have b14 := F14.binds (ps := ["_law_pot_here", "_law_some"]) fun _ _ _ _ _ _ us hl => match us, hl with | [_, _], _ => rfl
  have g14 := PySem.W.mg_of X G a14
  have F15 := fun_mk (x := "_law_value") (qual := "_law_value") (st := sValue) l15 c15 k15
  have b15 := F15.binds (ps := ["_law_row", "_law_at"]) fun _ _ _ _ _ _ us hl => match us, hl with | [_, _], _ => rfl
  have g15 := PySem.W.mg_of X G a15
  have F16 := fun_mk (x := "_law_sign") (qual := "_law_sign") (st := sSign) l16 c16 k16
  have b16 := F16.binds (ps := ["_law_number"]) fun _ _ _ _ _ _ us hl => match us, hl with | [_], _ => rfl
  have g16 := PySem.W.mg_of X G a16
  have F17 := fun_mk (x := "_law_moved") (qual := "_law_moved") (st := sMoved) l17 c17 k17
  have b17 := F17.binds (ps := ["_law_row", "_law_back"]) fun _ _ _ _ _ _ us hl => match us, hl with | [_, _], _ => rfl
  have g17 := PySem.W.mg_of X G a17
  have F18 := fun_mk (x := "_law_poly") (qual := "_law_poly") (st := sPoly) l18 c18 k18
  have b18 := F18.binds (ps := ["_law_row"]) fun _ _ _ _ _ _ us hl => match us, hl with | [_], _ => rfl
  have g18 := PySem.W.mg_of X G a18
  have F19 := fun_mk (x := "_law_due") (qual := "_law_due") (st := sDue) l19 c19 k19
  have b19 := F19.binds (ps := ["_law_row", "_law_back", "_law_times"]) fun _ _ _ _ _ _ us hl => match us, hl with | [_, _, _], _ => rfl
  have g19 := PySem.W.mg_of X G a19
  have F20 := fun_mk (x := "_law_right") (qual := "_law_right") (st := sRight) l20 c20 k20
  have b20 := F20.binds (ps := ["_law_pot_here"]) fun _ _ _ _ _ _ us hl => match us, hl with | [_], _ => rfl
  have g20 := PySem.W.mg_of X G a20
  have F21 := fun_mk (x := "law") (qual := "law") (st := sLaw) l21 c21 k21
  have b21 := F21.binds (ps := ["_law_script"]) fun _ _ _ _ _ _ us hl => match us, hl with | [_], _ => rfl
  have g21 := PySem.W.mg_of X G a21
  have Fm0 := fun_mk (x := "__init__") (qual := "Polynomial.__init__") (st := sPInit) lm0 cm0 km0
  have Fm1 := fun_mk (x := "coefficients") (qual := "Polynomial.coefficients") (st := sPCoef) lm1 cm1 km1
  have bm1 := Fm1.binds (ps := ["self"]) fun _ _ _ _ _ _ us hl => match us, hl with | [_], _ => rfl
  have Fm2 := fun_mk (x := "at") (qual := "Polynomial.at") (st := sPAt) lm2 cm2 km2
  have bm2 := Fm2.binds (ps := ["self", "d"]) fun _ _ _ _ _ _ us hl => match us, hl with | [_, _], _ => rfl
  have Fm3 := fun_mk (x := "__add__") (qual := "Polynomial.__add__") (st := sPAdd) lm3 cm3 km3
  have bm3 := Fm3.binds (ps := ["self", "other"]) fun _ _ _ _ _ _ us hl => match us, hl with | [_, _], _ => rfl
  have Fm4 := fun_mk (x := "__sub__") (qual := "Polynomial.__sub__") (st := sPSub) lm4 cm4 km4
  have bm4 := Fm4.binds (ps := ["self", "other"]) fun _ _ _ _ _ _ us hl => match us, hl with | [_, _], _ => rfl
  have Fm5 := fun_mk (x := "__mul__") (qual := "Polynomial.__mul__") (st := sPMul) lm5 cm5 km5
  have bm5 := Fm5.binds (ps := ["self", "other"]) fun _ _ _ _ _ _ us hl => match us, hl with | [_, _], _ => rfl
  have Fm6 := fun_mk (x := "__neg__") (qual := "Polynomial.__neg__") (st := sPNeg) lm6 cm6 km6
  have bm6 := Fm6.binds (ps := ["self"]) fun _ _ _ _ _ _ us hl => match us, hl with | [_], _ => rfl
  have Fmd := fun_mk (x := "degree") (qual := "Polynomial.degree") (st := sPDeg) lmd cmd kmd
  have bmd := Fmd.binds (ps := ["self"]) fun _ _ _ _ _ _ us hl => match us, hl with | [_], _ => rfl
  refine ⟨PySem.W.fnOf "law" "law" (defArgs sLaw) (defBody sLaw) (defScope sLaw) .none kV21 dc21 pm21 an21 cd21 ct21, fun s v => .of_eq rfl, fun base _ _ => ?_⟩
  have N : Pc K mg C := ⟨⟨pg, hd, po, sa⟩, nR, PySem.W.mg_of X G aC, ic, gt, tk, mo, sf⟩
  have D0 := df_of (P := l.prog) (w := w) (base := base) F0 g0 b0 (ok_isInt F0 T)
  have D1 := df_of (P := l.prog) (w := w) (base := base) F1 g1 b1 (ok_added F1 T)
  have D2 := df_of (P := l.prog) (w := w) (base := base) F2 g2 b2 (ok_mult F2 T)
  have D3 := df_of (P := l.prog) (w := w) (base := base) F3 g3 b3 (ok_opp F3 T)
  have M : PMk l.prog w K mg base C := ⟨N, fm0, ⟨mk, am0, im0, kc⟩, ok_pinit Fm0 T N D0⟩
  have PC : PCl l.prog w K mg base C := ⟨M, ⟨fm1, _, ⟨am1, im1, km1⟩, bm1, ok_coef Fm1 N⟩, ⟨fm2, _, ⟨am2, im2, km2⟩, bm2, ok_at Fm2 T N D0⟩, ⟨pd, fmd, _, ⟨ad, gd, td, ⟨_, rcd⟩⟩, bmd, ok_deg Fmd T N⟩⟩
  have D4 := df_of (P := l.prog) (w := w) (base := base) F4 g4 b4 (ok_rowOf F4 T PC)
  have O : POp l.prog w K mg base C := ⟨PC, ⟨fm5, am5, im5, raw0 (ok_mul Fm5 T M D2 D4) bm5⟩, ⟨fm3, am3, im3, raw0 (ok_add Fm3 T M D1 D4) bm3⟩, ⟨fm4, am4, im4, raw0 (ok_sub Fm4 T M D1 D4 D3) bm4⟩, ⟨fm6, am6, im6, raw0 (ok_neg Fm6 T M D3) bm6⟩⟩
  have D5 := df_of (P := l.prog) (w := w) (base := base) F5 g5 b5 (ok_signAt F5 T PC)
  have D6 := df_of (P := l.prog) (w := w) (base := base) F6 g6 b6 (ok_step F6 O)
  have D7 := df_of (P := l.prog) (w := w) (base := base) F7 g7 b7 (ok_first F7 D5)
  have D8 := df_of (P := l.prog) (w := w) (base := base) F8 g8 b8 (ok_runsIn F8 D5 D7)
  have D9 := df_of (P := l.prog) (w := w) (base := base) F9 g9 b9 (ok_joined F9)
  have D10 := df_of (P := l.prog) (w := w) (base := base) F10 g10 b10 (ok_one F10 T)
  have D11 := df_of (P := l.prog) (w := w) (base := base) F11 g11 b11 (ok_signRuns F11 T PC D10 D4 D6 D5 D8 D9)
  have D12 := df_of (P := l.prog) (w := w) (base := base) F12 g12 b12 (ok_pot F12 T)
  have D13 := df_of (P := l.prog) (w := w) (base := base) F13 g13 b13 (ok_digit F13 T)
  have D14 := df_of (P := l.prog) (w := w) (base := base) F14 g14 b14 (ok_pick F14 T D13)
  have D15 := df_of (P := l.prog) (w := w) (base := base) F15 g15 b15 (ok_value F15)
  have D16 := df_of (P := l.prog) (w := w) (base := base) F16 g16 b16 (ok_sign F16 T)
  have D17 := df_of (P := l.prog) (w := w) (base := base) F17 g17 b17 (ok_moved F17 T)
  have D18 := df_of (P := l.prog) (w := w) (base := base) F18 g18 b18 (ok_polyL F18 O)
  have D19 := df_of (P := l.prog) (w := w) (base := base) F19 g19 b19 (ok_due F19 T D15 D16)
  have DD : Defs l.prog w K mg base C := ⟨T, O, D13, D14, D17, D18, D19, D11⟩
  have D20 := df_of (P := l.prog) (w := w) (base := base) F20 g20 b20 (ok_right F20 DD)
  exact ok_law F21 T D12 D20
theorem walk {l : PySem.W.OpenLaw} {q : Program} {loose : List Str} {XP : (Str → Option Value) → Heap → Prop} {YP : World → Heap → Prop} {d : DefRec} {K : Params → PySem.W.Frag} (hn : l.most = some 63) (hdf : d.params.defaults = [])
    (hY : ∀ (w : World) (h : Heap), YP w h → (K w.params).In h)
    (F : ∀ (w : World) (mg : Str → Option Value) (fa : Addr) (h : Heap), (K w.params).In h → h.Ns mainGlobals mg → mg d.name = some (.ref fa) →
      ∃ fd : FuncData, (∀ (s : Shared) (u : Value), BindsTo s fd ⟨[u], []⟩ [("_law_script", u)]) ∧ ∀ base : Heap, (K w.params).In base → base.Ns mainGlobals mg → FnOk l.prog w (K w.params) mg base CX0 8 fa fd ["_law_script"] (spLaw (K w.params))) :
    PySem.W.WalkO q loose XP YP l.row.toRowW d [] (fun f vs => PySem.call f vs) :=
  L2.walk_of (n := 63) (k := 8) (x := "_law_script") (CX := fun _ => CX0) (sp := fun w => spLaw (K w.params)) hn (by decide) hdf ⟨rfl, by decide, by decide⟩ hY F (fun _ _ a ns hl _ hS => ⟨a, ns, rfl, hS, hl, fun _ => rfl⟩) fun _ _ _ _ _ z => z
end S75

open PySem PySem.W PyProof.Rows in
set_option maxRecDepth 100000 in
set_option maxHeartbeats 0 in
theorem PySem.Challenge.cw_slotsums_k75_sign_runs_far_away_holds : PySem.Challenge.rw_slotsums_k75_sign_runs_far_away.Holds := by
  w_on; o_law; k_head; (case hw => w_witness2)
  k_fill
  refine S75.walk (l := PySem.Challenge.rw_slotsums_k75_sign_runs_far_away) rfl rfl (fun w h Y => PySem.W.kIn_of Y) ?F
  case F =>
    intro w mg fa h KX G hmg
    refine' S75.all_mk KX G hmg ?a0 ?l0 ?c0 ?k0 ?a1 ?l1 ?c1 ?k1 ?a2 ?l2 ?c2 ?k2 ?a3 ?l3 ?c3 ?k3 ?a4 ?l4 ?c4 ?k4 ?a5 ?l5 ?c5 ?k5 ?a6 ?l6 ?c6 ?k6 ?a7 ?l7 ?c7 ?k7 ?a8 ?l8 ?c8 ?k8 ?a9 ?l9 ?c9 ?k9 ?a10 ?l10 ?c10 ?k10 ?a11 ?l11 ?c11 ?k11 ?a12 ?l12 ?c12 ?k12 ?a13 ?l13 ?c13 ?k13 ?a14 ?l14 ?c14 ?k14 ?a15 ?l15 ?c15 ?k15 ?a16 ?l16 ?c16 ?k16 ?a17 ?l17 ?c17 ?k17 ?a18 ?l18 ?c18 ?k18 ?a19 ?l19 ?c19 ?k19 ?a20 ?l20 ?c20 ?k20 ?a21 ?l21 ?c21 ?k21 ?aC ?am0 ?im0 ?lm0 ?cm0 ?km0 ?am1 ?im1 ?lm1 ?cm1 ?km1 ?am2 ?im2 ?lm2 ?cm2 ?km2 ?am3 ?im3 ?lm3 ?cm3 ?km3 ?am4 ?im4 ?lm4 ?cm4 ?km4 ?am5 ?im5 ?lm5 ?cm5 ?km5 ?am6 ?im6 ?lm6 ?cm6 ?km6 ?ad ?gd ?td ?rcd ?lmd ?cmd ?kmd ?pg ?hd ?po ?sa ?mk ?kc ?nR ?ic ?gt ?tk ?mo ?sf ?z_isinstance ?z_int ?z_bool ?z_len ?z_list ?z_max ?z_min ?z_sum ?z_zip ?z_range ?z_tuple ?z_enumerate ?z_any ?z_all ?z_abs ?z_divmod
    (case a0 => k_is)
    (case l0 => k_is)
    (case c0 => k_is)
    (case k0 => k_is)
    (case a1 => k_is)
    (case l1 => k_is)
    (case c1 => k_is)
    (case k1 => k_is)
    (case a2 => k_is)
    (case l2 => k_is)
    (case c2 => k_is)
    (case k2 => k_is)
    (case a3 => k_is)
    (case l3 => k_is)
    (case c3 => k_is)
    (case k3 => k_is)
    (case a4 => k_is)
    (case l4 => k_is)
    (case c4 => k_is)
    (case k4 => k_is)
    (case a5 => k_is)
    (case l5 => k_is)
    (case c5 => k_is)
    (case k5 => k_is)
    (case a6 => k_is)
    (case l6 => k_is)
    (case c6 => k_is)
    (case k6 => k_is)
    (case a7 => k_is)
    (case l7 => k_is)
    (case c7 => k_is)
    (case k7 => k_is)
    (case a8 => k_is)
    (case l8 => k_is)
    (case c8 => k_is)
    (case k8 => k_is)
    (case a9 => k_is)
    (case l9 => k_is)
    (case c9 => k_is)
    (case k9 => k_is)
    (case a10 => k_is)
    (case l10 => k_is)
    (case c10 => k_is)
    (case k10 => k_is)
    (case a11 => k_is)
    (case l11 => k_is)
    (case c11 => k_is)
    (case k11 => k_is)
    (case a12 => k_is)
    (case l12 => k_is)
    (case c12 => k_is)
    (case k12 => k_is)
    (case a13 => k_is)
    (case l13 => k_is)
    (case c13 => k_is)
    (case k13 => k_is)
    (case a14 => k_is)
    (case l14 => k_is)
    (case c14 => k_is)
    (case k14 => k_is)
    (case a15 => k_is)
    (case l15 => k_is)
    (case c15 => k_is)
    (case k15 => k_is)
    (case a16 => k_is)
    (case l16 => k_is)
    (case c16 => k_is)
    (case k16 => k_is)
    (case a17 => k_is)
    (case l17 => k_is)
    (case c17 => k_is)
    (case k17 => k_is)
    (case a18 => k_is)
    (case l18 => k_is)
    (case c18 => k_is)
    (case k18 => k_is)
    (case a19 => k_is)
    (case l19 => k_is)
    (case c19 => k_is)
    (case k19 => k_is)
    (case a20 => k_is)
    (case l20 => k_is)
    (case c20 => k_is)
    (case k20 => k_is)
    (case a21 => k_is)
    (case l21 => k_is)
    (case c21 => k_is)
    (case k21 => k_is)
    (case aC => k_is)
    (case am0 => k_is)
    (case im0 => k_is)
    (case lm0 => k_is)
    (case cm0 => k_is)
    (case km0 => k_is)
    (case am1 => k_is)
    (case im1 => k_is)
    (case lm1 => k_is)
    (case cm1 => k_is)
    (case km1 => k_is)
    (case am2 => k_is)
    (case im2 => k_is)
    (case lm2 => k_is)
    (case cm2 => k_is)
    (case km2 => k_is)
    (case am3 => k_is)
    (case im3 => k_is)
    (case lm3 => k_is)
    (case cm3 => k_is)
    (case km3 => k_is)
    (case am4 => k_is)
    (case im4 => k_is)
    (case lm4 => k_is)
    (case cm4 => k_is)
    (case km4 => k_is)
    (case am5 => k_is)
    (case im5 => k_is)
    (case lm5 => k_is)
    (case cm5 => k_is)
    (case km5 => k_is)
    (case am6 => k_is)
    (case im6 => k_is)
    (case lm6 => k_is)
    (case cm6 => k_is)
    (case km6 => k_is)
    (case ad => k_is)
    (case gd => k_is)
    (case td => k_is)
    (case rcd => k_is)
    (case lmd => k_is)
    (case cmd => k_is)
    (case kmd => k_is)
    (case pg => k_is)
    (case hd => k_is)
    (case po => k_is)
    (case sa => k_is)
    (case mk => k_is)
    (case kc => k_is)
    (case nR => k_is)
    (case ic => k_is)
    (case gt => k_is)
    (case tk => k_is)
    (case mo => k_is)
    (case sf => k_is)
    (case z_isinstance => k_is)
    (case z_int => k_is)
    (case z_bool => k_is)
    (case z_len => k_is)
    (case z_list => k_is)
    (case z_max => k_is)
    (case z_min => k_is)
    (case z_sum => k_is)
    (case z_zip => k_is)
    (case z_range => k_is)
    (case z_tuple => k_is)
    (case z_enumerate => k_is)
    (case z_any => k_is)
    (case z_all => k_is)
    (case z_abs => k_is)
    (case z_divmod => k_is)
