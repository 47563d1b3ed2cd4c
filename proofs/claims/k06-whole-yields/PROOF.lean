import PyProof.Rows.All
import Wide.All
import OpenK.AllK
import Wide.FinOn
import HandS.ForMost
import HandS.ForExc
import HandS.Gcd
import HandS.IsInst
import HandS.Lambda
import HandS.EndTab
import HandS.ExcIs
import HandS.Small
import HandS.AnyAll
import KE.GoesEnum
import PyProof.NoPylong
import PyProof.GenCompD
import PyProof.ConsumeS
import KE.DataIsa
import HandS.HeadWalk
import PySem.Challenge.RW_actuarium_k06_whole_yields_to_places
set_option Elab.async false
set_option linter.all false
section
/-! Polynomials with integer coefficients, the constant one first: values at rationals. -/
namespace Yk
def ev : List Int → Rat → Rat
  | [], _ => 0
  | a :: l, x => (a : Rat) + x * ev l x
def padd : List Int → List Int → List Int
  | [], q => q
  | a :: p, [] => a :: p
  | a :: p, b :: q => (a + b) :: padd p q
def psc (c : Int) (p : List Int) : List Int := p.map (c * ·)
def pmul : List Int → List Int → List Int
  | [], _ => []
  | a :: p, q => padd (psc a q) (0 :: pmul p q)
def pd : List Int → List Int
  | [] => []
  | _ :: l => padd l (0 :: pd l)
def psub (p q : List Int) : List Int := padd p (psc (-1) q)

theorem ev_nil (x : Rat) : ev [] x = 0 := rfl
theorem ev_cons (a : Int) (l : List Int) (x : Rat) : ev (a :: l) x = (a : Rat) + x * ev l x := rfl
theorem ev_padd : ∀ (p q : List Int) (x : Rat), ev (padd p q) x = ev p x + ev q x
  | [], q, x => by simp only [padd, ev_nil]; grind
  | a :: p, [], x => by simp only [padd, ev_nil]; grind
  | a :: p, b :: q, x => by
    simp only [padd, ev_cons, ev_padd p q x, Rat.intCast_add]
    grind
theorem ev_psc (c : Int) : ∀ (p : List Int) (x : Rat), ev (psc c p) x = (c : Rat) * ev p x
  | [], x => by show (0 : Rat) = _ * 0; grind
  | a :: p, x => by
    show ev ((c * a) :: psc c p) x = _
    simp only [ev_cons, ev_psc c p x, Rat.intCast_mul]
    grind
theorem ev_psub (p q : List Int) (x : Rat) : ev (psub p q) x = ev p x - ev q x := by
  unfold psub
  rw [ev_padd, ev_psc]
  have : ((-1 : Int) : Rat) = -1 := by rfl
  rw [this]
  grind
theorem ev_zcons (p : List Int) (x : Rat) : ev (0 :: p) x = x * ev p x := by
  rw [ev_cons]
  have : ((0 : Int) : Rat) = 0 := rfl
  rw [this]
  grind
theorem ev_pmul : ∀ (p q : List Int) (x : Rat), ev (pmul p q) x = ev p x * ev q x
  | [], q, x => by show (0 : Rat) = 0 * _; grind
  | a :: p, q, x => by
    simp only [pmul, ev_padd, ev_psc, ev_zcons, ev_pmul p q x, ev_cons]
    grind
theorem ev_pd_cons (a : Int) (l : List Int) (x : Rat) : ev (pd (a :: l)) x = ev l x + x * ev (pd l) x := by
  simp only [pd, ev_padd, ev_zcons]
theorem ev_pd_padd : ∀ (p q : List Int) (x : Rat), ev (pd (padd p q)) x = ev (pd p) x + ev (pd q) x
  | [], q, x => by simp only [padd, pd, ev_nil]; grind
  | a :: p, [], x => by simp only [padd, pd, ev_nil]; grind
  | a :: p, b :: q, x => by
    simp only [padd, ev_pd_cons, ev_padd, ev_pd_padd p q x]
    grind
theorem ev_pd_psc (c : Int) : ∀ (p : List Int) (x : Rat), ev (pd (psc c p)) x = (c : Rat) * ev (pd p) x
  | [], x => by show (0 : Rat) = _ * 0; grind
  | a :: p, x => by
    show ev (pd ((c * a) :: psc c p)) x = _
    simp only [ev_pd_cons, ev_psc, ev_pd_psc c p x]
    grind
theorem ev_pd_psub (p q : List Int) (x : Rat) : ev (pd (psub p q)) x = ev (pd p) x - ev (pd q) x := by
  unfold psub
  rw [ev_pd_padd, ev_pd_psc]
  have : ((-1 : Int) : Rat) = -1 := by rfl
  rw [this]
  grind
theorem ev_pd_pmul : ∀ (p q : List Int) (x : Rat), ev (pd (pmul p q)) x = ev (pd p) x * ev q x + ev p x * ev (pd q) x
  | [], q, x => by simp only [pmul, pd, ev_nil]; grind
  | a :: p, q, x => by
    simp only [pmul, ev_pd_padd, ev_pd_psc, ev_pd_cons, ev_pmul, ev_pd_pmul p q x, ev_cons]
    grind

/-! ### the leading coefficient -/
/-- the last coefficient, 0 of the empty list -/
def lead : List Int → Int
  | [] => 0
  | [a] => a
  | _ :: b :: l => lead (b :: l)
theorem lead_cons {a : Int} {l : List Int} (h : l ≠ []) : lead (a :: l) = lead l := by
  cases l with
  | nil => exact absurd rfl h
  | cons b l => rfl
theorem lead_mem : ∀ {l : List Int}, lead l ≠ 0 → lead l ∈ l
  | [], h => absurd rfl h
  | [a], _ => List.mem_cons_self
  | a :: b :: l, h => List.mem_cons_of_mem _ (lead_mem (l := b :: l) h)
def AllZ (l : List Int) : Prop := ∀ a ∈ l, a = 0
theorem ev_allZ : ∀ {l : List Int}, AllZ l → ∀ x, ev l x = 0
  | [], _, x => rfl
  | a :: l, h, x => by
    rw [h a List.mem_cons_self, ev_zcons, ev_allZ (fun b hb => h b (List.mem_cons_of_mem _ hb)) x]
    grind
/-- beyond 1 + the greatest coefficient the sign is the leading coefficient's -/
theorem big_pos : ∀ (l : List Int) (A : Int), (∀ a ∈ l, -A ≤ a ∧ a ≤ A) → 0 < lead l → ∀ x : Rat, (1 : Rat) + A ≤ x → 1 ≤ ev l x
  | [], A, _, h, x, _ => absurd h (by decide)
  | [a], A, hA, h, x, hx => by
    have h1 : (1 : Int) ≤ a := h
    have h2 : ((1 : Int) : Rat) ≤ (a : Rat) := Rat.intCast_le_intCast.mpr h1
    rw [ev_cons, ev_nil]
    have : ((1 : Int) : Rat) = 1 := rfl
    grind
  | a :: b :: l, A, hA, h, x, hx => by
    have ih := big_pos (b :: l) A (fun c hc => hA c (List.mem_cons_of_mem _ hc)) h x hx
    obtain ⟨h1, h2⟩ := hA a List.mem_cons_self
    have hA0 : (0 : Int) ≤ A := by omega
    have hA1 : ((0 : Int) : Rat) ≤ (A : Rat) := Rat.intCast_le_intCast.mpr hA0
    have h3 : ((-A : Int) : Rat) ≤ (a : Rat) := Rat.intCast_le_intCast.mpr h1
    rw [Rat.intCast_neg] at h3
    have z0 : ((0 : Int) : Rat) = 0 := rfl
    rw [z0] at hA1
    have hx0 : (0 : Rat) ≤ x := by grind
    have h4 := Rat.mul_le_mul_of_nonneg_left ih hx0
    rw [ev_cons]
    grind
theorem lead_psc {c : Int} : ∀ (l : List Int), lead (psc c l) = c * lead l
  | [] => by show (0 : Int) = c * 0; omega
  | [a] => rfl
  | a :: b :: l => lead_psc (c := c) (b :: l)
theorem neg_one_cast : ((-1 : Int) : Rat) = -1 := rfl
theorem mem_psc_neg {l : List Int} {A : Int} (h : ∀ a ∈ l, -A ≤ a ∧ a ≤ A) : ∀ a ∈ psc (-1) l, -A ≤ a ∧ a ≤ A := fun a ha => by
  obtain ⟨b, hb, e⟩ := List.mem_map.mp ha
  have := h b hb
  omega
theorem big_neg (l : List Int) (A : Int) (hA : ∀ a ∈ l, -A ≤ a ∧ a ≤ A) (h : lead l < 0) (x : Rat) (hx : (1 : Rat) + A ≤ x) : ev l x ≤ -1 := by
  have h1 := big_pos (psc (-1) l) A (mem_psc_neg hA) (by rw [lead_psc]; omega) x hx
  rw [ev_psc, neg_one_cast] at h1
  grind
/-- a bound of all coefficients -/
def hgt (l : List Int) : Int := ((l.map Int.natAbs).foldr max 0 : Nat)
theorem hgt_mem : ∀ (l : List Int), ∀ a ∈ l, -(hgt l) ≤ a ∧ a ≤ hgt l
  | [], a, h => by cases h
  | b :: l, a, h => by
    have e : hgt (b :: l) = (max b.natAbs ((l.map Int.natAbs).foldr max 0) : Nat) := rfl
    rcases List.mem_cons.mp h with h | h
    · subst h
      rw [e]
      omega
    · have := hgt_mem l a h
      unfold hgt at this
      rw [e]
      omega
theorem hgt_nn (l : List Int) : 0 ≤ hgt l := Int.natCast_nonneg _
theorem big_ne {l : List Int} (h : lead l ≠ 0) {x : Rat} (hx : (1 : Rat) + hgt l ≤ x) : ev l x ≠ 0 := by
  rcases Int.lt_or_gt_of_ne h with h | h
  · have := big_neg l (hgt l) (hgt_mem l) h x hx
    grind
  · have := big_pos l (hgt l) (hgt_mem l) h x hx
    grind

/-! ### trimming -/
def trim : List Int → List Int
  | [] => []
  | a :: l => match trim l with
    | [] => if a = 0 then [] else [a]
    | b :: m => a :: b :: m
theorem trim_ev : ∀ (l : List Int) (x : Rat), ev (trim l) x = ev l x
  | [], x => rfl
  | a :: l, x => by
    have ih := trim_ev l x
    unfold trim
    cases e : trim l with
    | nil =>
      rw [e] at ih
      by_cases h : a = 0
      · simp only [if_pos h]
        rw [ev_cons, ← ih, h]
        have z0 : ((0 : Int) : Rat) = 0 := rfl
        rw [z0, ev_nil]
        grind
      · simp only [if_neg h]
        rw [ev_cons, ev_cons, ← ih]
    | cons b m =>
      simp only
      rw [ev_cons, ← e, ih, ev_cons]
theorem trim_lead : ∀ (l : List Int), trim l ≠ [] → lead (trim l) ≠ 0
  | [], h => absurd rfl h
  | a :: l, h => by
    unfold trim at h ⊢
    cases e : trim l with
    | nil =>
      rw [e] at h
      by_cases h0 : a = 0
      · simp only [if_pos h0] at h
        exact absurd rfl h
      · simp only [if_neg h0]
        exact h0
    | cons b m =>
      simp only
      have ih := trim_lead l (by rw [e]; simp)
      rw [e] at ih
      exact ih
theorem trim_nil : ∀ {l : List Int}, trim l = [] → AllZ l
  | [], _, a, h => by cases h
  | b :: l, h, a, ha => by
    unfold trim at h
    cases e : trim l with
    | nil =>
      rw [e] at h
      by_cases h0 : b = 0
      · rcases List.mem_cons.mp ha with q | q
        · rw [q, h0]
        · exact trim_nil e a q
      · simp only [if_neg h0] at h
        cases h
    | cons c m =>
      rw [e] at h
      cases h
/-- a polynomial that is 0 at all large places is 0 -/
theorem zero_of_big {l : List Int} {X : Rat} (h : ∀ x, X ≤ x → ev l x = 0) : AllZ l := by
  refine trim_nil (Decidable.byContradiction fun q => ?_)
  have hl := trim_lead l q
  have h1 := h (max X ((1 : Rat) + hgt (trim l))) (by grind)
  rw [← trim_ev] at h1
  exact big_ne hl (by grind) h1
theorem zero_of_ev {l : List Int} (h : ∀ x, ev l x = 0) : AllZ l := zero_of_big (X := 0) fun x _ => h x
theorem allZ_pd : ∀ {l : List Int}, AllZ l → ∀ x, ev (pd l) x = 0
  | [], _, x => rfl
  | a :: l, h, x => by
    have hl : AllZ l := fun b hb => h b (List.mem_cons_of_mem _ hb)
    rw [ev_pd_cons, ev_allZ hl, allZ_pd hl]
    grind
/-- equal polynomials have equal derivatives -/
theorem pd_congr {p q : List Int} (h : ∀ x, ev p x = ev q x) (x : Rat) : ev (pd p) x = ev (pd q) x := by
  have h1 : ∀ x, ev (psub p q) x = 0 := fun x => by
    rw [ev_psub, h]
    grind
  have h2 := allZ_pd (zero_of_ev h1) x
  rw [ev_pd_psub] at h2
  grind
theorem cancel_big {g p q : List Int} (hg : lead g ≠ 0) (h : ∀ x, ev g x * ev p x = ev g x * ev q x) (x : Rat) : ev p x = ev q x := by
  have h1 : ∀ x, (1 : Rat) + hgt g ≤ x → ev (psub p q) x = 0 := fun x hx => by
    have h2 := big_ne hg hx
    have h3 := h x
    rw [ev_psub]
    grind
  have h4 := ev_allZ (zero_of_big h1) x
  rw [ev_psub] at h4
  grind
theorem lead_padd : ∀ {p q : List Int}, q.length < p.length → lead (padd p q) = lead p
  | [], q, h => absurd h (Nat.not_lt_zero _)
  | a :: p, [], h => rfl
  | a :: p, b :: q, h => by
    have h1 : q.length < p.length := Nat.lt_of_succ_lt_succ h
    have ih := lead_padd h1
    cases p with
    | nil => exact absurd h1 (Nat.not_lt_zero _)
    | cons c p =>
      show lead ((a + b) :: padd (c :: p) q) = lead (c :: p)
      rw [lead_cons (by cases q <;> simp [padd])]
      exact ih
/-- a shorter polynomial is smaller at all large places -/
theorem small_big {g r : List Int} (hg : lead g ≠ 0) (h : r.length < g.length) : ∃ X : Rat, ∀ x, X ≤ x → -(ev r x) ≠ ev g x ∧ ev r x ≠ ev g x ∧ (ev g x > 0 → ev r x < ev g x ∧ -(ev r x) < ev g x) ∧ (ev g x < 0 → ev g x < ev r x ∧ ev g x < -(ev r x)) := by
  have l1 : lead (padd g r) = lead g := lead_padd h
  have l2 : lead (psub g r) = lead g := lead_padd (by unfold psc; rw [List.length_map]; exact h)
  refine ⟨max ((1 : Rat) + hgt g) (max ((1 : Rat) + hgt (padd g r)) ((1 : Rat) + hgt (psub g r))), fun x hx => ?_⟩
  have x1 : (1 : Rat) + hgt g ≤ x := by grind
  have x2 : (1 : Rat) + hgt (padd g r) ≤ x := by grind
  have x3 : (1 : Rat) + hgt (psub g r) ≤ x := by grind
  rcases Int.lt_or_gt_of_ne hg with q | q
  · have a1 := big_neg _ _ (hgt_mem g) q x x1
    have a2 := big_neg _ _ (hgt_mem (padd g r)) (by rw [l1]; exact q) x x2
    have a3 := big_neg _ _ (hgt_mem (psub g r)) (by rw [l2]; exact q) x x3
    rw [ev_padd] at a2
    rw [ev_psub] at a3
    refine ⟨by grind, by grind, fun z => by grind, fun z => by grind⟩
  · have a1 := big_pos _ _ (hgt_mem g) q x x1
    have a2 := big_pos _ _ (hgt_mem (padd g r)) (by rw [l1]; exact q) x x2
    have a3 := big_pos _ _ (hgt_mem (psub g r)) (by rw [l2]; exact q) x x3
    rw [ev_padd] at a2
    rw [ev_psub] at a3
    refine ⟨by grind, by grind, fun z => by grind, fun z => by grind⟩
/-- what g divides and is shorter than g is 0 -/
theorem div_short {g a r : List Int} (hg : lead g ≠ 0) (h : r.length < g.length) (e : ∀ x, ev g x * ev a x = ev r x) : ∀ x, ev r x = 0 ∧ ev a x = 0 := by
  have ha : trim a = [] := Decidable.byContradiction fun q => by
    have hl := trim_lead a q
    obtain ⟨X, hX⟩ := small_big hg h
    let y := max X (max ((1 : Rat) + hgt (trim a)) ((1 : Rat) + hgt g))
    have y1 : X ≤ y := by grind
    have y2 : (1 : Rat) + hgt (trim a) ≤ y := by grind
    have y3 : (1 : Rat) + hgt g ≤ y := by grind
    obtain ⟨_, _, c1, c2⟩ := hX y y1
    have e1 := e y
    have n3 := big_ne hg y3
    rcases Int.lt_or_gt_of_ne hl with q | q
    · have a1 := big_neg _ _ (hgt_mem (trim a)) q y y2
      rw [trim_ev] at a1
      by_cases z : 0 < ev g y
      · have a2 := Rat.mul_le_mul_of_nonneg_left a1 (show (0 : Rat) ≤ ev g y by grind)
        have := c1 z
        grind
      · have a2 := Rat.mul_le_mul_of_nonneg_left a1 (show (0 : Rat) ≤ -(ev g y) by grind)
        have := c2 (by grind)
        grind
    · have a1 := big_pos _ _ (hgt_mem (trim a)) q y y2
      rw [trim_ev] at a1
      by_cases z : 0 < ev g y
      · have a2 := Rat.mul_le_mul_of_nonneg_left a1 (show (0 : Rat) ≤ ev g y by grind)
        have := c1 z
        grind
      · have a2 := Rat.mul_le_mul_of_nonneg_left a1 (show (0 : Rat) ≤ -(ev g y) by grind)
        have := c2 (by grind)
        grind
  intro x
  have h1 := ev_allZ (trim_nil ha) x
  have h2 := e x
  rw [h1] at h2
  exact ⟨by grind, h1⟩
end Yk
end
section
/-! The program's polynomial functions as Lean functions; remainder, quotient, common factor. -/
namespace Yk
/-! ### trimming, primitive -/
theorem trim_len : ∀ (l : List Int), (trim l).length ≤ l.length
  | [] => Nat.le_refl _
  | a :: l => by
    have ih := trim_len l
    unfold trim
    cases e : trim l with
    | nil =>
      by_cases h : a = 0
      · simp only [if_pos h]
        simp
      · simp only [if_neg h]
        simp
    | cons b m =>
      rw [e] at ih
      simp only [List.length_cons] at ih ⊢
      omega
theorem trim_of_lead : ∀ {l : List Int}, lead l ≠ 0 → trim l = l
  | [], h => rfl
  | [a], h => by
    have h' : a ≠ 0 := h
    show (if a = 0 then [] else [a]) = [a]
    rw [if_neg h']
  | a :: b :: l, h => by
    have ih := trim_of_lead (l := b :: l) h
    show (match trim (b :: l) with | [] => if a = 0 then [] else [a] | c :: m => a :: c :: m) = _
    rw [ih]
def Trm (l : List Int) : Prop := l = [] ∨ lead l ≠ 0
theorem trm_trim (l : List Int) : Trm (trim l) := by
  by_cases h : trim l = []
  · exact .inl h
  · exact .inr (trim_lead l h)
theorem Trm.eq {l : List Int} (h : Trm l) : trim l = l := by
  rcases h with h | h
  · rw [h]
    rfl
  · exact trim_of_lead h
theorem lead_append_singleton : ∀ (l : List Int) (a : Int), lead (l ++ [a]) = a
  | [], a => rfl
  | [b], a => rfl
  | b :: c :: l, a => lead_append_singleton (c :: l) a
theorem trim_snoc_zero : ∀ (l : List Int), trim (l ++ [0]) = trim l
  | [] => rfl
  | a :: l => by
    have ih := trim_snoc_zero l
    show trim (a :: (l ++ [0])) = trim (a :: l)
    unfold trim
    rw [ih]
theorem lead_ne_nil {l : List Int} (h : lead l ≠ 0) : l ≠ [] := fun z => h (by rw [z]; rfl)
theorem mem_trim : ∀ {l : List Int} {a : Int}, a ∈ trim l → a ∈ l
  | [], a, h => by cases h
  | b :: l, a, h => by
    unfold trim at h
    cases e : trim l with
    | nil =>
      rw [e] at h
      by_cases h0 : b = 0
      · simp only [if_pos h0] at h
        cases h
      · simp only [if_neg h0] at h
        rw [List.mem_singleton.mp h]
        exact List.mem_cons_self
    | cons c m =>
      rw [e] at h
      simp only at h
      rcases List.mem_cons.mp h with h | h
      · rw [h]
        exact List.mem_cons_self
      · exact List.mem_cons_of_mem _ (mem_trim (by rw [e]; exact h))
/-- the greatest common divisor of all coefficients -/
def cont (l : List Int) : Nat := l.foldl (fun c a => Nat.gcd c a.natAbs) 0
theorem foldl_gcd_dvd : ∀ (l : List Int) (c : Nat), l.foldl (fun c a => Nat.gcd c a.natAbs) c ∣ c ∧ ∀ a ∈ l, l.foldl (fun c a => Nat.gcd c a.natAbs) c ∣ a.natAbs
  | [], c => ⟨Nat.dvd_refl _, fun a h => by cases h⟩
  | b :: l, c => by
    obtain ⟨h1, h2⟩ := foldl_gcd_dvd l (Nat.gcd c b.natAbs)
    refine ⟨Nat.dvd_trans h1 (Nat.gcd_dvd_left _ _), fun a ha => ?_⟩
    rcases List.mem_cons.mp ha with e | e
    · subst e
      exact Nat.dvd_trans h1 (Nat.gcd_dvd_right _ _)
    · exact h2 a e
theorem cont_dvd {l : List Int} {a : Int} (h : a ∈ l) : (cont l : Int) ∣ a := by
  have h1 := (foldl_gcd_dvd l 0).2 a h
  exact Int.dvd_natAbs.mp (Int.natCast_dvd_natCast.mpr h1)
theorem cont_zero {l : List Int} (h : cont l = 0) : AllZ l := fun a ha => by
  have h1 := (foldl_gcd_dvd l 0).2 a ha
  have h2 : l.foldl (fun c a => Nat.gcd c a.natAbs) 0 = 0 := h
  rw [h2] at h1
  have := Nat.eq_zero_of_zero_dvd h1
  omega
def prim (l : List Int) : List Int := (trim l).map (fun a => a / (cont l : Int))
theorem prim_len (l : List Int) : (prim l).length = (trim l).length := List.length_map ..
theorem ev_divs {c : Int} (hc : c ≠ 0) : ∀ {l : List Int}, (∀ a ∈ l, c ∣ a) → ∀ x, ev l x = (c : Rat) * ev (l.map (fun a => a / c)) x
  | [], _, x => by show (0 : Rat) = _ * 0; grind
  | a :: l, h, x => by
    have ih := ev_divs hc (fun b hb => h b (List.mem_cons_of_mem _ hb)) (l := l) x
    obtain ⟨k, hk⟩ := h a List.mem_cons_self
    show ev (a :: l) x = (c : Rat) * ev ((a / c) :: l.map (fun a => a / c)) x
    rw [ev_cons, ev_cons, ih]
    have : a / c = k := by rw [hk, Int.mul_ediv_cancel_left _ hc]
    rw [this, hk, Rat.intCast_mul]
    grind
theorem allZ_trim : ∀ {l : List Int}, AllZ l → trim l = []
  | [], _ => rfl
  | a :: l, h => by
    unfold trim
    rw [allZ_trim (fun b hb => h b (List.mem_cons_of_mem _ hb))]
    simp only [if_pos (h a List.mem_cons_self)]
theorem lead_map {f : Int → Int} (f0 : f 0 = 0) : ∀ (l : List Int), lead (l.map f) = f (lead l)
  | [] => f0.symm
  | [a] => rfl
  | a :: b :: l => lead_map f0 (b :: l)
theorem prim_ev (l : List Int) : ∃ c : Int, 0 < c ∧ ∀ x, ev l x = (c : Rat) * ev (prim l) x := by
  by_cases h : cont l = 0
  · refine ⟨1, by decide, fun x => ?_⟩
    unfold prim
    rw [allZ_trim (cont_zero h), ev_allZ (cont_zero h)]
    show (0 : Rat) = _ * 0
    grind
  · refine ⟨cont l, by omega, fun x => ?_⟩
    rw [← trim_ev l x]
    exact ev_divs (by omega) (fun a ha => cont_dvd (mem_trim ha)) x
theorem prim_trm (l : List Int) : Trm (prim l) := by
  rcases trm_trim l with h | h
  · exact .inl (by unfold prim; rw [h]; rfl)
  · refine .inr ?_
    unfold prim
    rw [lead_map (by simp)]
    intro z
    have hc : (cont l : Int) ≠ 0 := fun q => by
      have := allZ_trim (cont_zero (l := l) (by omega))
      exact lead_ne_nil h this
    obtain ⟨k, hk⟩ := cont_dvd (mem_trim (lead_mem h))
    rw [hk, Int.mul_ediv_cancel_left _ hc] at z
    rw [z, Int.mul_zero] at hk
    exact h hk
theorem prim_nil {l : List Int} : prim l = [] ↔ trim l = [] := by
  rw [← List.length_eq_zero_iff, prim_len, List.length_eq_zero_iff]

/-! ### subtraction of a multiple at a place -/
def subF (f : Int) : List Int → List Int → List Int
  | [], l => l
  | _ :: _, [] => []
  | b :: o, a :: l => (a - f * b) :: subF f o l
def subAt : Nat → Int → List Int → List Int → List Int
  | 0, f, o, l => subF f o l
  | _ + 1, _, _, [] => []
  | n + 1, f, o, a :: l => a :: subAt n f o l
theorem subF_len (f : Int) : ∀ (o l : List Int), (subF f o l).length = l.length
  | [], l => rfl
  | b :: o, [] => rfl
  | b :: o, a :: l => by
    show (subF f o l).length + 1 = l.length + 1
    rw [subF_len f o l]
theorem subAt_len (f : Int) (o : List Int) : ∀ (n : Nat) (l : List Int), (subAt n f o l).length = l.length
  | 0, l => subF_len f o l
  | n + 1, [] => rfl
  | n + 1, a :: l => by
    show (subAt n f o l).length + 1 = l.length + 1
    rw [subAt_len f o n l]
theorem ev_subF (f : Int) : ∀ (o l : List Int) (x : Rat), o.length ≤ l.length → ev (subF f o l) x = ev l x - (f : Rat) * ev o x
  | [], l, x, _ => by
    show ev l x = _ - _ * 0
    grind
  | b :: o, [], x, h => absurd h (by simp)
  | b :: o, a :: l, x, h => by
    have ih := ev_subF f o l x (by simpa using h)
    show ev ((a - f * b) :: subF f o l) x = _
    rw [ev_cons, ev_cons, ev_cons, ih, Rat.intCast_sub, Rat.intCast_mul]
    grind
theorem ev_subAt (f : Int) (o : List Int) : ∀ (n : Nat) (l : List Int) (x : Rat), n + o.length ≤ l.length → ev (subAt n f o l) x = ev l x - (f : Rat) * (x ^ n * ev o x)
  | 0, l, x, h => by
    show ev (subF f o l) x = _
    rw [ev_subF f o l x (by omega), Rat.pow_zero]
    grind
  | n + 1, [], x, h => absurd h (by simp only [List.length_nil]; omega)
  | n + 1, a :: l, x, h => by
    have ih := ev_subAt f o n l x (by simp only [List.length_cons] at h; omega)
    show ev (a :: subAt n f o l) x = _
    rw [ev_cons, ev_cons, ih, Rat.pow_succ]
    grind
theorem lead_subF (f : Int) : ∀ (o l : List Int), o.length = l.length → l ≠ [] → lead (subF f o l) = lead l - f * lead o
  | [], [], _, h => absurd rfl h
  | [], a :: l, h, _ => absurd h (by simp)
  | b :: o, [], h, _ => absurd h (by simp)
  | [b], [a], _, _ => rfl
  | [b], a :: c :: l, h, _ => absurd h (by simp)
  | b :: d :: o, [a], h, _ => absurd h (by simp)
  | b :: d :: o, a :: c :: l, h, _ => lead_subF f (d :: o) (c :: l) (by simpa using h) (by simp)
theorem lead_subAt (f : Int) (o : List Int) (ho : o ≠ []) : ∀ (n : Nat) (l : List Int), n + o.length = l.length → lead (subAt n f o l) = lead l - f * lead o
  | 0, l, h => lead_subF f o l (by omega) (fun z => by
      rw [z] at h
      have : o.length ≠ 0 := fun q => ho (List.length_eq_zero_iff.mp q)
      simp only [List.length_nil] at h
      omega)
  | n + 1, [], h => absurd h (by simp only [List.length_nil]; omega)
  | n + 1, a :: l, h => by
    have h1 : n + o.length = l.length := by simp only [List.length_cons] at h; omega
    have ih := lead_subAt f o ho n l h1
    have hl : l ≠ [] := fun z => by
      have : o.length ≠ 0 := fun q => ho (List.length_eq_zero_iff.mp q)
      rw [z] at h1
      simp only [List.length_nil] at h1
      omega
    have hs : subAt n f o l ≠ [] := fun z => by
      have := subAt_len f o n l
      rw [z] at this
      exact hl (List.length_eq_zero_iff.mp this.symm)
    show lead (a :: subAt n f o l) = lead (a :: l) - f * lead o
    rw [lead_cons hs, lead_cons hl]
    exact ih
/-- the last one left out, if it is 0 -/
theorem ev_dropLast : ∀ {l : List Int}, lead l = 0 → ∀ x, ev l.dropLast x = ev l x
  | [], _, x => rfl
  | [a], h, x => by
    have h : a = 0 := h
    rw [h, ev_zcons]
    show (0 : Rat) = x * 0
    grind
  | a :: b :: l, h, x => by
    show ev (a :: (b :: l).dropLast) x = _
    rw [ev_cons, ev_cons, ev_dropLast (l := b :: l) h x]

/-! ### remainder -/
def rstep (other rest : List Int) : List Int :=
  trim (subAt (rest.length - other.length) (if 0 < lead other then lead rest else 0 - lead rest) other (rest.map (fun a => a * ((lead other).natAbs : Int)))).dropLast
def rloop : Nat → List Int → List Int → List Int
  | 0, _, rest => trim rest
  | n + 1, other, rest => if other.length ≤ rest.length then rloop n other (rstep other rest) else trim rest
def remd (one other : List Int) : List Int := rloop one.length other one
theorem ev_smul (c : Int) (l : List Int) (x : Rat) : ev (l.map (fun a => a * c)) x = (c : Rat) * ev l x := by
  have : l.map (fun a => a * c) = psc c l := by
    unfold psc
    exact List.map_congr_left fun a _ => Int.mul_comm a c
  rw [this, ev_psc]
/-- x^n -/
def mono : Nat → List Int
  | 0 => [1]
  | n + 1 => 0 :: mono n
theorem ev_mono : ∀ (n : Nat) (x : Rat), ev (mono n) x = x ^ n
  | 0, x => by
    show ((1 : Int) : Rat) + x * 0 = _
    rw [Rat.pow_zero]
    have : ((1 : Int) : Rat) = 1 := rfl
    grind
  | n + 1, x => by
    show ev (0 :: mono n) x = _
    rw [ev_zcons, ev_mono n x, Rat.pow_succ]
    grind
theorem rstep_len {other rest : List Int} (h : 0 < rest.length) : (rstep other rest).length < rest.length := by
  unfold rstep
  refine Nat.lt_of_le_of_lt (trim_len _) ?_
  rw [List.length_dropLast, subAt_len, List.length_map]
  omega
theorem rstep_ev {other rest : List Int} (ho : lead other ≠ 0) (h : other.length ≤ rest.length) :
    ∃ (m : Int) (q : List Int), 0 < m ∧ ∀ x, (m : Rat) * ev rest x = ev q x * ev other x + ev (rstep other rest) x := by
  refine ⟨(lead other).natAbs, psc (if 0 < lead other then lead rest else 0 - lead rest) (mono (rest.length - other.length)), by omega, fun x => ?_⟩
  have hn : other ≠ [] := lead_ne_nil ho
  have hl : rest.length - other.length + other.length = (rest.map (fun a => a * ((lead other).natAbs : Int))).length := by
    rw [List.length_map]
    omega
  unfold rstep
  rw [trim_ev, ev_dropLast, ev_subAt _ _ _ _ _ (Nat.le_of_eq hl), ev_smul, ev_psc, ev_mono]
  · grind
  · rw [lead_subAt _ _ hn _ _ hl, lead_map (by simp)]
    by_cases q : 0 < lead other
    · rw [if_pos q]
      have : ((lead other).natAbs : Int) = lead other := by omega
      rw [this]
      omega
    · rw [if_neg q]
      have : ((lead other).natAbs : Int) = -(lead other) := by omega
      rw [this]
      have e1 : (0 - lead rest) * lead other = lead rest * -lead other := by
        rw [Int.mul_neg, Int.sub_mul, Int.zero_mul]
        omega
      rw [e1]
      omega
theorem rloop_ev {other : List Int} (ho : lead other ≠ 0) : ∀ (n : Nat) (rest : List Int), rest.length ≤ n →
    (∃ (m : Int) (q : List Int), 0 < m ∧ ∀ x, (m : Rat) * ev rest x = ev q x * ev other x + ev (rloop n other rest) x) ∧ (rloop n other rest).length < other.length ∧ Trm (rloop n other rest)
  | 0, rest, h => by
    have e : rest = [] := List.length_eq_zero_iff.mp (by omega)
    subst e
    refine ⟨⟨1, [], by decide, fun x => ?_⟩, ?_, .inl rfl⟩
    · show _ * (0 : Rat) = 0 * _ + 0
      grind
    · have : other.length ≠ 0 := fun q => lead_ne_nil ho (List.length_eq_zero_iff.mp q)
      show 0 < _
      omega
  | n + 1, rest, h => by
    have hon : other.length ≠ 0 := fun q => lead_ne_nil ho (List.length_eq_zero_iff.mp q)
    unfold rloop
    by_cases hl : other.length ≤ rest.length
    · rw [if_pos hl]
      have h1 := rstep_len (other := other) (rest := rest) (by omega)
      obtain ⟨⟨m, q, hm, e⟩, h2, h3⟩ := rloop_ev ho n (rstep other rest) (by omega)
      obtain ⟨m2, q2, hm2, e2⟩ := rstep_ev ho hl
      refine ⟨⟨m * m2, padd (psc m q2) q, Int.mul_pos hm hm2, fun x => ?_⟩, h2, h3⟩
      have e1 := e x
      have e3 := e2 x
      rw [Rat.intCast_mul, ev_padd, ev_psc]
      grind
    · rw [if_neg hl]
      refine ⟨⟨1, [], by decide, fun x => ?_⟩, ?_, trm_trim _⟩
      · rw [trim_ev]
        have : ((1 : Int) : Rat) = 1 := rfl
        rw [this, ev_nil]
        grind
      · have := trim_len rest
        omega
theorem remd_ev {one other : List Int} (ho : lead other ≠ 0) :
    (∃ (m : Int) (q : List Int), 0 < m ∧ ∀ x, (m : Rat) * ev one x = ev q x * ev other x + ev (remd one other) x) ∧ (remd one other).length < other.length ∧ Trm (remd one other) := rloop_ev ho _ _ (Nat.le_refl _)

/-! ### the derivative as the program makes it -/
def dmul : Nat → List Int → List Int
  | _, [] => []
  | k, a :: l => ((k : Int) * a) :: dmul (k + 1) l
def deriv (l : List Int) : List Int := trim ((dmul 0 l).drop 1)
theorem ev_dmul : ∀ (k : Nat) (l : List Int) (x : Rat), ev (dmul k l) x = (k : Rat) * ev l x + x * ev (pd l) x
  | k, [], x => by show (0 : Rat) = _ * 0 + _ * 0; grind
  | k, a :: l, x => by
    show ev (((k : Int) * a) :: dmul (k + 1) l) x = _
    rw [ev_cons, ev_dmul (k + 1) l x, ev_cons, ev_pd_cons, Rat.intCast_mul, Rat.intCast_natCast, Rat.natCast_add]
    have : ((1 : Nat) : Rat) = 1 := rfl
    rw [this]
    grind
theorem deriv_ev (l : List Int) (x : Rat) : ev (deriv l) x = ev (pd l) x := by
  unfold deriv
  rw [trim_ev]
  cases l with
  | nil => rfl
  | cons a l =>
    show ev (dmul 1 l) x = _
    rw [ev_dmul, ev_pd_cons]
    have : ((1 : Nat) : Rat) = 1 := rfl
    rw [this]
    grind
theorem dmul_len : ∀ (k : Nat) (l : List Int), (dmul k l).length = l.length
  | _, [] => rfl
  | k, a :: l => by
    show (dmul (k + 1) l).length + 1 = l.length + 1
    rw [dmul_len (k + 1) l]
theorem lead_dmul : ∀ (k : Nat) (l : List Int), l ≠ [] → lead (dmul k l) = ((k + l.length - 1 : Nat) : Int) * lead l
  | k, [], h => absurd rfl h
  | k, [a], _ => by show (k : Int) * a = _; simp [lead]
  | k, a :: b :: l, _ => by
    have ih := lead_dmul (k + 1) (b :: l) (by simp)
    show lead (dmul (k + 1) (b :: l)) = _ * lead (b :: l)
    rw [ih]
    congr 2
    simp only [List.length_cons]
    omega
theorem deriv_eq {a : Int} {l : List Int} (h : lead l ≠ 0) : deriv (a :: l) = dmul 1 l := by
  unfold deriv
  show trim (dmul 1 l) = dmul 1 l
  refine trim_of_lead ?_
  rw [lead_dmul 1 l (lead_ne_nil h)]
  refine Int.mul_ne_zero ?_ h
  have : l.length ≠ 0 := fun q => lead_ne_nil h (List.length_eq_zero_iff.mp q)
  omega
theorem deriv_short {l : List Int} (h : l.length < 2) : deriv l = [] := by
  unfold deriv
  match l, h with
  | [], _ => rfl
  | [a], _ => rfl
  | a :: b :: l, h => simp at h; omega
end Yk
end
section
/-! Common factor, exact quotient, the part without repeated roots. -/
namespace Yk
/-! ### common factor -/
def cloop : Nat → List Int → List Int → List Int
  | 0, one, _ => one
  | n + 1, one, other => if other = [] then one else cloop n (prim other) (remd one (prim other))
def cfac (one other : List Int) : List Int := cloop other.length (prim one) other
theorem one_cast : ((1 : Int) : Rat) = 1 := rfl
theorem zero_cast : ((0 : Int) : Rat) = 0 := rfl
theorem ev_one (x : Rat) : ev [1] x = 1 := by
  rw [ev_cons, one_cast, ev_nil]
  grind
theorem ev_const (c : Int) (x : Rat) : ev [c] x = c := by
  rw [ev_cons, ev_nil]
  grind
structure Cf (one other g : List Int) : Prop where
  lead : lead g ≠ 0
  bez : ∃ (c : Int) (u v : List Int), c ≠ 0 ∧ ∀ x, (c : Rat) * ev g x = ev u x * ev one x + ev v x * ev other x
  fst : ∃ (c : Int) (a : List Int), c ≠ 0 ∧ ∀ x, (c : Rat) * ev one x = ev a x * ev g x
  snd : ∃ (c : Int) (b : List Int), c ≠ 0 ∧ ∀ x, (c : Rat) * ev other x = ev b x * ev g x
theorem cf_refl {one : List Int} (h : Yk.lead one ≠ 0) : Cf one [] one :=
  ⟨h, ⟨1, [1], [], by decide, fun x => by rw [one_cast, ev_one, ev_nil]; grind⟩, ⟨1, [1], by decide, fun x => by rw [one_cast, ev_one]⟩, ⟨1, [], by decide, fun x => by rw [ev_nil]; grind⟩⟩
theorem cloop_ok : ∀ (n : Nat) (one other : List Int), lead one ≠ 0 → Trm other → other.length ≤ n → Cf one other (cloop n one other) ∧ (other.length ≤ one.length → (cloop n one other).length ≤ one.length)
  | 0, one, other, h, _, hn => by
    have e : other = [] := List.length_eq_zero_iff.mp (by omega)
    subst e
    exact ⟨cf_refl h, fun _ => Nat.le_refl _⟩
  | n + 1, one, other, h, ht, hn => by
    unfold cloop
    by_cases e : other = []
    · rw [if_pos e, e]
      exact ⟨cf_refl h, fun _ => Nat.le_refl _⟩
    · rw [if_neg e]
      have hp : lead (prim other) ≠ 0 := by
        rcases prim_trm other with q | q
        · rw [prim_nil, ht.eq] at q
          exact absurd q e
        · exact q
      obtain ⟨k, hk, ek⟩ := prim_ev other
      obtain ⟨⟨m, q, hm, em⟩, hl, htr⟩ := remd_ev (one := one) hp
      have hpl : (prim other).length = other.length := by rw [prim_len, ht.eq]
      obtain ⟨⟨hg, ⟨c, u, v, hc, ec⟩, ⟨c1, a, hc1, ea⟩, ⟨c2, b, hc2, eb⟩⟩, hle⟩ := cloop_ok n (prim other) (remd one (prim other)) hp htr (by omega)
      refine ⟨⟨hg, ⟨k * c, psc (k * m) v, psub u (pmul v q), Int.mul_ne_zero (by omega) hc, fun x => ?_⟩, ⟨c1 * c2 * m, padd (pmul (psc c2 q) a) (psc c1 b), Int.mul_ne_zero (Int.mul_ne_zero hc1 hc2) (by omega), fun x => ?_⟩, ⟨c1, psc k a, hc1, fun x => ?_⟩⟩, fun ho => ?_⟩
      · have e1 := ec x
        have e2 := em x
        have e3 := ek x
        rw [Rat.intCast_mul, ev_psc, ev_psub, ev_pmul, e3, Rat.intCast_mul]
        grind
      · have e1 := ea x
        have e2 := em x
        have e3 := eb x
        rw [Rat.intCast_mul, Rat.intCast_mul, ev_padd, ev_pmul, ev_psc, ev_psc]
        grind
      · have e1 := ea x
        have e3 := ek x
        rw [ev_psc, e3]
        grind
      · have := hle (by omega)
        omega
theorem cfac_ok {one other : List Int} (h : lead one ≠ 0) (ht : Trm other) (hl : other.length ≤ one.length) : Cf one other (cfac one other) ∧ (cfac one other).length ≤ one.length := by
  have hp : lead (prim one) ≠ 0 := by
    rcases prim_trm one with q | q
    · rw [prim_nil, trim_of_lead h] at q
      exact absurd q (lead_ne_nil h)
    · exact q
  obtain ⟨k, hk, ek⟩ := prim_ev one
  have hpl : (prim one).length = one.length := by rw [prim_len, trim_of_lead h]
  obtain ⟨⟨hg, ⟨c, u, v, hc, ec⟩, ⟨c1, a, hc1, ea⟩, ⟨c2, b, hc2, eb⟩⟩, hle⟩ := cloop_ok other.length (prim one) other hp ht (Nat.le_refl _)
  refine ⟨⟨hg, ⟨k * c, u, psc k v, Int.mul_ne_zero (by omega) hc, fun x => ?_⟩, ⟨c1, psc k a, hc1, fun x => ?_⟩, ⟨c2, b, hc2, eb⟩⟩, by
    have := hle (by omega)
    unfold cfac
    omega⟩
  · have e1 := ec x
    have e2 := ek x
    unfold cfac
    rw [Rat.intCast_mul, ev_psc, e2]
    grind
  · have e1 := ea x
    have e2 := ek x
    unfold cfac
    rw [ev_psc, e2]
    grind

/-! ### places -/
theorem getD_cons_succ {a : Int} {l : List Int} {i : Nat} : (a :: l).getD (i + 1) 0 = l.getD i 0 := by simp
theorem getD_cons_zero {a : Int} {l : List Int} : (a :: l).getD 0 0 = a := by simp
theorem getD_nil {i : Nat} : ([] : List Int).getD i 0 = 0 := by simp
theorem getD_subF (f : Int) : ∀ (o l : List Int) (i : Nat), o.length ≤ l.length → (subF f o l).getD i 0 = l.getD i 0 - f * o.getD i 0
  | [], l, i, _ => by
    show l.getD i 0 = _
    rw [getD_nil, Int.mul_zero, Int.sub_zero]
  | b :: o, [], i, h => absurd h (by simp)
  | b :: o, a :: l, 0, h => by
    show ((a - f * b) :: subF f o l).getD 0 0 = _
    rw [getD_cons_zero, getD_cons_zero, getD_cons_zero]
  | b :: o, a :: l, i + 1, h => by
    show ((a - f * b) :: subF f o l).getD (i + 1) 0 = _
    rw [getD_cons_succ, getD_cons_succ, getD_cons_succ]
    exact getD_subF f o l i (by simpa using h)
theorem getD_subAt (f : Int) (o : List Int) : ∀ (n : Nat) (l : List Int) (i : Nat), n + o.length ≤ l.length → (subAt n f o l).getD i 0 = l.getD i 0 - f * (if i < n then 0 else o.getD (i - n) 0)
  | 0, l, i, h => by
    show (subF f o l).getD i 0 = _
    rw [getD_subF f o l i (by omega), if_neg (by omega)]
    simp
  | n + 1, [], i, h => absurd h (by simp only [List.length_nil]; omega)
  | n + 1, a :: l, 0, h => by
    show (a :: subAt n f o l).getD 0 0 = _
    rw [getD_cons_zero, getD_cons_zero, if_pos (by omega)]
    omega
  | n + 1, a :: l, i + 1, h => by
    show (a :: subAt n f o l).getD (i + 1) 0 = _
    rw [getD_cons_succ, getD_cons_succ, getD_subAt f o n l i (by simp only [List.length_cons] at h; omega)]
    by_cases q : i < n
    · rw [if_pos q, if_pos (by omega)]
    · rw [if_neg q, if_neg (by omega)]
      congr 3
      omega
theorem lead_getD : ∀ (l : List Int), lead l = l.getD (l.length - 1) 0
  | [] => rfl
  | [a] => rfl
  | a :: b :: l => by
    have ih := lead_getD (b :: l)
    show lead (b :: l) = (a :: b :: l).getD (l.length + 1 + 1 - 1) 0
    rw [ih, Nat.add_sub_cancel, getD_cons_succ]
    rfl
theorem ev_set : ∀ (l : List Int) (i : Nat) (q : Int) (x : Rat), i < l.length → ev (l.set i q) x = ev l x + ((q : Rat) - (l.getD i 0 : Int)) * x ^ i
  | [], i, q, x, h => absurd h (by simp)
  | a :: l, 0, q, x, h => by
    rw [List.set_cons_zero, ev_cons, ev_cons, getD_cons_zero, Rat.pow_zero]
    grind
  | a :: l, i + 1, q, x, h => by
    rw [List.set_cons_succ, ev_cons, ev_cons, getD_cons_succ, ev_set l i q x (by simpa using h), Rat.pow_succ]
    grind
theorem getD_set {l : List Int} {i j : Nat} {q : Int} : (l.set i q).getD j 0 = if i = j ∧ j < l.length then q else l.getD j 0 := by
  rw [List.getD_eq_getElem?_getD, List.getElem?_set]
  by_cases h : i = j
  · subst h
    by_cases h2 : i < l.length
    · simp [h2]
    · simp [h2]
  · simp [h]
theorem getD_map_mul (c : Int) (l : List Int) (i : Nat) : (l.map (fun a => a * c)).getD i 0 = l.getD i 0 * c := by
  rw [List.getD_eq_getElem?_getD, List.getElem?_map, List.getD_eq_getElem?_getD]
  cases l[i]? <;> simp
theorem trim_short : ∀ {l : List Int} {k : Nat}, (∀ i, k ≤ i → l.getD i 0 = 0) → (trim l).length ≤ k
  | [], k, _ => Nat.zero_le _
  | a :: l, 0, h => by
    have : AllZ (a :: l) := fun b hb => by
      obtain ⟨i, hi, e⟩ := List.getElem_of_mem hb
      have := h i (Nat.zero_le _)
      rw [List.getD_eq_getElem?_getD, List.getElem?_eq_getElem hi, e] at this
      exact this
    rw [allZ_trim this]
    exact Nat.le_refl _
  | a :: l, k + 1, h => by
    have ih := trim_short (l := l) (k := k) fun i hi => by
      have := h (i + 1) (by omega)
      rw [getD_cons_succ] at this
      exact this
    unfold trim
    cases e : trim l with
    | nil =>
      by_cases q : a = 0
      · simp only [if_pos q]
        simp
      · simp only [if_neg q]
        simp
    | cons b m =>
      rw [e] at ih
      simp only [List.length_cons] at ih ⊢
      omega

/-! ### exact quotient -/
def qstep (other : List Int) (i : Nat) (st : List Int × List Int) : List Int × List Int :=
  let st1 := if (st.1.getD (i + other.length - 1) 0).fmod (lead other) ≠ 0 then (st.1.map (fun a => a * lead other), st.2.map (fun a => a * lead other)) else st
  let q := (st1.1.getD (i + other.length - 1) 0).fdiv (lead other)
  (subAt i q other st1.1, st1.2.set i q)
def qloop (other : List Int) : Nat → List Int × List Int → List Int × List Int
  | 0, st => st
  | n + 1, st => qloop other n (qstep other n st)
def quot (one other : List Int) : List Int := prim (qloop other (one.length - other.length + 1) (one, List.replicate (one.length - other.length + 1) 0)).2
structure QInv (one other : List Int) (N n : Nat) (st : List Int × List Int) : Prop where
  l1 : st.1.length = one.length
  l2 : st.2.length = N
  ev : ∃ m : Int, m ≠ 0 ∧ ∀ x, (m : Rat) * ev one x = ev st.2 x * ev other x + ev st.1 x
  z1 : ∀ i, n + other.length - 1 ≤ i → st.1.getD i 0 = 0
  z2 : ∀ i, i < n → st.2.getD i 0 = 0
theorem qstep_ok {one other : List Int} {N n : Nat} {st : List Int × List Int} (hl : lead other ≠ 0) (hN : N + other.length = one.length + 1) (hn : n + 1 ≤ N) (I : QInv one other N (n + 1) st) : QInv one other N n (qstep other n st) := by
  obtain ⟨l1, l2, ⟨m, hm, em⟩, z1, z2⟩ := I
  have hol : other.length ≠ 0 := fun q => lead_ne_nil hl (List.length_eq_zero_iff.mp q)
  -- the state behind the test
  have key : ∀ st1 : List Int × List Int, st1.1.length = one.length → st1.2.length = N → (∃ m : Int, m ≠ 0 ∧ ∀ x, (m : Rat) * Yk.ev one x = Yk.ev st1.2 x * Yk.ev other x + Yk.ev st1.1 x) →
      (∀ i, n + 1 + other.length - 1 ≤ i → st1.1.getD i 0 = 0) → (∀ i, i < n + 1 → st1.2.getD i 0 = 0) → lead other * (st1.1.getD (n + other.length - 1) 0).fdiv (lead other) = st1.1.getD (n + other.length - 1) 0 →
      QInv one other N n (subAt n ((st1.1.getD (n + other.length - 1) 0).fdiv (lead other)) other st1.1, st1.2.set n ((st1.1.getD (n + other.length - 1) 0).fdiv (lead other))) := by
    intro st1 l1 l2 ⟨m, hm, em⟩ z1 z2 hq
    generalize hqq : (st1.1.getD (n + other.length - 1) 0).fdiv (lead other) = q at hq ⊢
    have hb : n + other.length ≤ st1.1.length := by omega
    refine ⟨by rw [subAt_len]; exact l1, by rw [List.length_set]; exact l2, ⟨m, hm, fun x => ?_⟩, fun i hi => ?_, fun i hi => ?_⟩
    · have e1 := em x
      show _ = Yk.ev (st1.2.set n q) x * _ + Yk.ev (subAt n q other st1.1) x
      rw [ev_subAt _ _ _ _ _ hb, ev_set _ _ _ _ (by omega), z2 n (by omega), zero_cast]
      grind
    · show (subAt n q other st1.1).getD i 0 = 0
      rw [getD_subAt _ _ _ _ _ hb, if_neg (by omega)]
      by_cases e : i = n + other.length - 1
      · subst e
        have e2 : n + other.length - 1 - n = other.length - 1 := by omega
        rw [e2, ← lead_getD, ← hq, Int.mul_comm]
        omega
      · rw [z1 i (by omega)]
        have : other.getD (i - n) 0 = 0 := by
          rw [List.getD_eq_getElem?_getD, List.getElem?_eq_none (by omega)]
          rfl
        rw [this]
        omega
    · show (st1.2.set n q).getD i 0 = 0
      rw [getD_set, if_neg (by omega)]
      exact z2 i (by omega)
  unfold qstep
  by_cases hd : (st.1.getD (n + other.length - 1) 0).fmod (lead other) ≠ 0
  · simp only [if_pos hd]
    refine key (st.1.map (fun a => a * lead other), st.2.map (fun a => a * lead other)) ((List.length_map _).trans l1) ((List.length_map _).trans l2) ⟨lead other * m, Int.mul_ne_zero hl hm, fun x => ?_⟩ (fun i hi => ?_) (fun i hi => ?_) ?_
    · have e1 := em x
      show _ = Yk.ev (st.2.map _) x * _ + Yk.ev (st.1.map _) x
      rw [ev_smul, ev_smul, Rat.intCast_mul]
      grind
    · show (st.1.map _).getD i 0 = 0
      rw [getD_map_mul, z1 i hi, Int.zero_mul]
    · show (st.2.map _).getD i 0 = 0
      rw [getD_map_mul, z2 i hi, Int.zero_mul]
    · show lead other * ((st.1.map (fun a => a * lead other)).getD (n + other.length - 1) 0).fdiv (lead other) = (st.1.map (fun a => a * lead other)).getD (n + other.length - 1) 0
      rw [getD_map_mul, Int.mul_fdiv_cancel _ hl, Int.mul_comm]
  · simp only [if_neg hd]
    refine key _ l1 l2 ⟨m, hm, em⟩ z1 z2 ?_
    have h1 := Int.mul_fdiv_add_fmod (st.1.getD (n + other.length - 1) 0) (lead other)
    have h2 : (st.1.getD (n + other.length - 1) 0).fmod (lead other) = 0 := Decidable.not_not.mp hd
    rw [h2] at h1
    omega
theorem qloop_ok {one other : List Int} {N : Nat} (hl : lead other ≠ 0) (hN : N + other.length = one.length + 1) : ∀ (n : Nat) (st : List Int × List Int), n ≤ N → QInv one other N n st → QInv one other N 0 (qloop other n st)
  | 0, st, _, I => I
  | n + 1, st, hn, I => qloop_ok hl hN n _ (by omega) (qstep_ok hl hN hn I)
theorem ev_zeros : ∀ (n : Nat) (x : Rat), ev (List.replicate n 0) x = 0
  | 0, _ => rfl
  | n + 1, x => by
    rw [List.replicate_succ, ev_zcons, ev_zeros n x]
    grind
theorem qinv_start {one other : List Int} {N : Nat} (hN : N + other.length = one.length + 1) : QInv one other N N (one, List.replicate N 0) := by
  refine ⟨rfl, List.length_replicate .., ⟨1, by decide, fun x => ?_⟩, fun i hi => ?_, fun i hi => ?_⟩
  · show _ = ev (List.replicate N 0) x * _ + ev one x
    rw [one_cast, ev_zeros]
    grind
  · show one.getD i 0 = 0
    rw [List.getD_eq_getElem?_getD, List.getElem?_eq_none (by omega)]
    rfl
  · show (List.replicate N (0 : Int)).getD i 0 = 0
    rw [List.getD_eq_getElem?_getD, List.getElem?_replicate]
    split <;> rfl
/-- one is a multiple of other: the quotient is found -/
theorem quot_ok {one other : List Int} (h1 : lead one ≠ 0) (hl : lead other ≠ 0) (hle : other.length ≤ one.length) (hd : ∃ (c : Int) (a : List Int), c ≠ 0 ∧ ∀ x, (c : Rat) * ev one x = ev a x * ev other x) :
    lead (quot one other) ≠ 0 ∧ ∃ m k : Int, m ≠ 0 ∧ 0 < k ∧ ∀ x, (m : Rat) * ev one x = (k : Rat) * (ev (quot one other) x * ev other x) := by
  have hN : one.length - other.length + 1 + other.length = one.length + 1 := by omega
  have I := qloop_ok hl hN _ _ (Nat.le_refl _) (qinv_start hN)
  unfold quot
  generalize qloop other (one.length - other.length + 1) (one, List.replicate (one.length - other.length + 1) 0) = st at I ⊢
  obtain ⟨l1, l2, ⟨m, hm, em⟩, z1, z2⟩ := I
  obtain ⟨c, a, hc, ea⟩ := hd
  have hol : other.length ≠ 0 := fun q => lead_ne_nil hl (List.length_eq_zero_iff.mp q)
  have ht : (trim st.1).length ≤ other.length - 1 := trim_short fun i hi => z1 i (by omega)
  -- the rest is 0
  have hz := div_short (g := other) (a := psub (psc m a) (psc c st.2)) (r := psc c (trim st.1)) hl (by unfold psc; rw [List.length_map]; omega) (fun x => by
    have e1 := em x
    have e2 := ea x
    rw [ev_psub, ev_psc, ev_psc, ev_psc, trim_ev]
    grind)
  have hr : ∀ x, ev st.1 x = 0 := fun x => by
    have h3 := (hz x).1
    rw [ev_psc, trim_ev] at h3
    have h4 : (c : Rat) ≠ 0 := fun z => hc (Rat.intCast_inj.mp (z.trans zero_cast.symm))
    grind
  obtain ⟨k, hk, ek⟩ := prim_ev st.2
  refine ⟨?_, m, k, hm, hk, fun x => ?_⟩
  · rcases prim_trm st.2 with q | q
    · exfalso
      have h5 : ∀ x, ev one x = 0 := fun x => by
        have e1 := em x
        have e2 := ek x
        rw [q, ev_nil] at e2
        rw [hr x, e2] at e1
        have h4 : (m : Rat) ≠ 0 := fun z => hm (Rat.intCast_inj.mp (z.trans zero_cast.symm))
        grind
      exact big_ne h1 (Rat.le_refl) (h5 _)
    · exact q
  · have e1 := em x
    have e2 := ek x
    rw [hr x, e2] at e1
    grind
end Yk
end
section
/-! The quotient by the common factor with the derivative has no repeated root; the chain of remainders. -/
namespace Yk
/-- both have no common root: a combination is a constant -/
def Bz (p q : List Int) : Prop := ∃ (c : Int) (u v : List Int), c ≠ 0 ∧ ∀ x, ev u x * ev p x + ev v x * ev q x = (c : Rat)
def pdn : Nat → List Int → List Int
  | 0, g => g
  | n + 1, g => pdn n (pd g)
theorem pdn_succ : ∀ (n : Nat) (g : List Int), pdn (n + 1) g = pd (pdn n g)
  | 0, g => rfl
  | n + 1, g => pdn_succ n (pd g)
theorem rmul_pow (a b : Rat) : ∀ n : Nat, (a * b) ^ n = a ^ n * b ^ n
  | 0 => by rw [Rat.pow_zero, Rat.pow_zero, Rat.pow_zero]; grind
  | n + 1 => by
    rw [Rat.pow_succ, Rat.pow_succ, Rat.pow_succ, rmul_pow a b n]
    grind
/-- pd of one coefficient is [0]: its length is 1, its value 0 -/
theorem pd_one (a : Int) (x : Rat) : ev (pd [a]) x = 0 := by
  rw [ev_pd_cons, ev_nil]
  show (0 : Rat) + x * 0 = 0
  grind
theorem ev_deriv_lead {l : List Int} (h : lead l ≠ 0) (h2 : 2 ≤ l.length) : lead (deriv l) ≠ 0 ∧ (deriv l).length = l.length - 1 := by
  match l, h, h2 with
  | [], _, h2 => simp at h2
  | [a], _, h2 => simp at h2
  | a :: b :: l, h, _ =>
    have hb : lead (b :: l) ≠ 0 := h
    rw [deriv_eq hb]
    refine ⟨?_, ?_⟩
    · rw [lead_dmul 1 (b :: l) (by simp)]
      refine Int.mul_ne_zero ?_ hb
      simp only [List.length_cons]
      omega
    · rw [dmul_len]
      simp
/-- the n-th derivative of a polynomial of degree n is a constant other than 0 -/
theorem pdn_const : ∀ (n : Nat) (g : List Int), lead g ≠ 0 → g.length = n + 1 → ∃ C : Int, C ≠ 0 ∧ ∀ x, ev (pdn n g) x = (C : Rat)
  | 0, g, h, hl => by
    match g, hl, h with
    | [a], _, h => exact ⟨a, h, fun x => ev_const a x⟩
    | [], hl, _ => simp at hl
    | a :: b :: l, hl, _ => simp at hl
  | n + 1, g, h, hl => by
    obtain ⟨h1, h2⟩ := ev_deriv_lead h (by omega)
    obtain ⟨C, hC, e⟩ := pdn_const n (deriv g) h1 (by omega)
    refine ⟨C, hC, fun x => ?_⟩
    rw [← e x]
    show ev (pdn n (pd g)) x = _
    have key : ∀ (k : Nat) (p q : List Int), (∀ x, ev p x = ev q x) → ∀ x, ev (pdn k p) x = ev (pdn k q) x := by
      intro k
      induction k with
      | zero => exact fun p q h x => h x
      | succ k ih => exact fun p q h x => ih (pd p) (pd q) (fun x => pd_congr h x) x
    exact key n _ _ (fun x => (deriv_ev g x).symm) x
theorem pdn_zero (n : Nat) (g : List Int) (h : lead g ≠ 0) (hl : g.length = n + 1) (x : Rat) : ev (pdn (n + 1) g) x = 0 := by
  obtain ⟨C, _, e⟩ := pdn_const n g h hl
  rw [pdn_succ]
  have := pd_congr (p := pdn n g) (q := [C]) (fun x => by rw [e, ev_const]) x
  rw [this, pd_one]
def ppow (p : List Int) : Nat → List Int
  | 0 => [1]
  | n + 1 => pmul (ppow p n) p
theorem ev_ppow (p : List Int) : ∀ (n : Nat) (x : Rat), ev (ppow p n) x = ev p x ^ n
  | 0, x => by rw [Rat.pow_zero]; exact ev_one x
  | n + 1, x => by
    show ev (pmul (ppow p n) p) x = _
    rw [ev_pmul, ev_ppow p n x, Rat.pow_succ]
theorem ev_pd_ppow (p : List Int) : ∀ (n : Nat) (x : Rat), ev p x * ev (pd (ppow p n)) x = (n : Rat) * (ev p x ^ n * ev (pd p) x)
  | 0, x => by
    show ev p x * ev (pd [1]) x = _
    rw [pd_one]
    have : ((0 : Nat) : Rat) = 0 := rfl
    rw [this]
    grind
  | n + 1, x => by
    have ih := ev_pd_ppow p n x
    show ev p x * ev (pd (pmul (ppow p n) p)) x = _
    rw [ev_pd_pmul, ev_ppow, Rat.pow_succ, Rat.natCast_add]
    have : ((1 : Nat) : Rat) = 1 := rfl
    rw [this]
    grind
/-- the recursion that takes a common factor's derivatives apart -/
def wrec (S t : List Int) : Nat → List Int
  | 0 => [1]
  | j + 1 => padd (pmul t (wrec S t j)) (padd (pmul S (pd (wrec S t j))) (psc (-(j : Int)) (pmul (pd S) (wrec S t j))))
theorem wrec_ev (S t : List Int) (j : Nat) (x : Rat) : ev (wrec S t (j + 1)) x = ev t x * ev (wrec S t j) x + ev S x * ev (pd (wrec S t j)) x - (j : Rat) * (ev (pd S) x * ev (wrec S t j) x) := by
  show ev (padd _ (padd _ (psc _ _))) x = _
  rw [ev_padd, ev_padd, ev_psc, ev_pmul, ev_pmul, ev_pmul, Rat.intCast_neg, Rat.intCast_natCast]
  grind
theorem wrec_ok {S t g : List Int} (h : ∀ x, ev S x * ev (pd g) x = ev g x * ev t x) : ∀ (j : Nat) (x : Rat), ev S x ^ j * ev (pdn j g) x = ev g x * ev (wrec S t j) x
  | 0, x => by
    rw [Rat.pow_zero]
    show 1 * ev g x = ev g x * ev [1] x
    rw [ev_one]
    grind
  | j + 1, x => by
    have ih : ∀ x, ev (pmul (ppow S j) (pdn j g)) x = ev (pmul g (wrec S t j)) x := fun x => by
      rw [ev_pmul, ev_pmul, ev_ppow]
      exact wrec_ok h j x
    have d := pd_congr ih x
    have i0 := wrec_ok h j x
    have e1 := ev_pd_ppow S j x
    rw [ev_pd_pmul, ev_pd_pmul, ev_ppow] at d
    rw [wrec_ev, pdn_succ, Rat.pow_succ]
    have h1 := h x
    generalize ev S x ^ j = Sj at d i0 e1 ⊢
    generalize ev (pd (ppow S j)) x = dSj at d e1
    generalize ev (pdn j g) x = gj at d i0 ⊢
    generalize ev (pd (pdn j g)) x = gj1 at d ⊢
    generalize ev (wrec S t j) x = w at d i0 ⊢
    generalize ev (pd (wrec S t j)) x = w1 at d ⊢
    generalize ev S x = s at *
    generalize ev (pd S) x = s1 at *
    generalize ev (pd g) x = g1 at *
    generalize ev g x = g0 at *
    generalize ev t x = t0 at *
    generalize (j : Rat) = J at *
    -- s * d
    have d2 : s * (dSj * gj + Sj * gj1) = s * (g1 * w + g0 * w1) := by rw [d]
    have d3 : J * (Sj * s1) * gj = s * dSj * gj := by rw [e1]
    have d4 : J * s1 * (Sj * gj) = J * s1 * (g0 * w) := by rw [i0]
    have d5 : s * g1 * w = g0 * t0 * w := by rw [h1]
    grind
/-- in the ideal of s and its derivative wrec is the power of t -/
theorem wrec_ideal (s t : List Int) (k : Int) : ∀ j : Nat, ∃ a b : List Int, ∀ x, ev (wrec (psc k s) t j) x = ev t x ^ j + ev a x * ev s x + ev b x * ev (pd s) x
  | 0 => ⟨[], [], fun x => by
      show ev [1] x = _
      rw [ev_one, Rat.pow_zero, ev_nil]
      grind⟩
  | j + 1 => by
    obtain ⟨a, b, e⟩ := wrec_ideal s t k j
    refine ⟨padd (pmul t a) (psc k (pd (wrec (psc k s) t j))), psub (pmul t b) (psc (j * k) (wrec (psc k s) t j)), fun x => ?_⟩
    have e1 := e x
    rw [wrec_ev, ev_padd, ev_psub, ev_pmul, ev_pmul, ev_psc, ev_psc, ev_psc, ev_pd_psc, Rat.pow_succ, Rat.intCast_mul, Rat.intCast_natCast]
    generalize ev (pd (wrec (psc k s) t j)) x = w1 at *
    generalize ev (wrec (psc k s) t j) x = w at *
    generalize ev t x ^ j = T at *
    grind
theorem ideal_pow {r s s1 : List Int} {c : Int} {u v : List Int} (h : ∀ x, ev r x = (c : Rat) + ev u x * ev s x + ev v x * ev s1 x) : ∀ n : Nat, ∃ a b : List Int, ∀ x, ev r x ^ n = ((c ^ n : Int) : Rat) + ev a x * ev s x + ev b x * ev s1 x
  | 0 => ⟨[], [], fun x => by
      rw [Rat.pow_zero, Int.pow_zero, one_cast, ev_nil]
      grind⟩
  | n + 1 => by
    obtain ⟨a, b, e⟩ := ideal_pow h n
    refine ⟨padd (pmul a r) (psc (c ^ n) u), padd (pmul b r) (psc (c ^ n) v), fun x => ?_⟩
    have e1 := e x
    have e2 := h x
    rw [Rat.pow_succ, ev_padd, ev_padd, ev_pmul, ev_pmul, ev_psc, ev_psc, Int.pow_succ, Rat.intCast_mul]
    generalize ev r x ^ n = R at *
    generalize ((c ^ n : Int) : Rat) = C at *
    rw [e1]
    have : (C + ev a x * ev s x + ev b x * ev s1 x) * ev r x = C * ev r x + ev a x * ev r x * ev s x + ev b x * ev r x * ev s1 x := by grind
    rw [this]
    have : C * ev r x = C * ((c : Rat) + ev u x * ev s x + ev v x * ev s1 x) := by rw [← e2]
    rw [this]
    grind
theorem cast_ne {c : Int} (h : c ≠ 0) : (c : Rat) ≠ 0 := fun z => h (Rat.intCast_inj.mp (z.trans zero_cast.symm))
theorem pow_ne_int {c : Int} (h : c ≠ 0) : ∀ n : Nat, c ^ n ≠ 0
  | 0 => by rw [Int.pow_zero]; decide
  | n + 1 => by rw [Int.pow_succ]; exact Int.mul_ne_zero (pow_ne_int h n) h
/-- f = s g with g the common factor of f and f': s has no repeated root, and f divides a power of s -/
theorem simple_part {f g s : List Int} (C : Cf f (deriv f) g) {A K : Int} (hA : A ≠ 0) (hK : K ≠ 0) (e : ∀ x, (A : Rat) * ev f x = (K : Rat) * (ev s x * ev g x)) :
    Bz s (pd s) ∧ ∃ (D : Int) (k : List Int) (n : Nat), D ≠ 0 ∧ ∀ x, ev f x * ev k x = (D : Rat) * ev s x ^ n := by
  obtain ⟨hg, ⟨c1, u, v, hc1, eb⟩, _, ⟨c2, b, hc2, ed⟩⟩ := C
  have e' : ∀ x, (A : Rat) * ev (pd f) x = (K : Rat) * (ev (pd s) x * ev g x + ev s x * ev (pd g) x) := fun x => by
    have := pd_congr (p := psc A f) (q := psc K (pmul s g)) (fun x => by
      rw [ev_psc, ev_psc, ev_pmul]
      exact e x) x
    rw [ev_pd_psc, ev_pd_psc, ev_pd_pmul] at this
    exact this
  -- t with (c2 K s) g' = g t
  have ht : ∀ x, ev (psc (c2 * K) s) x * ev (pd g) x = ev g x * ev (psub (psc A b) (psc (c2 * K) (pd s))) x := fun x => by
    have h1 := e' x
    have h2 := ed x
    rw [deriv_ev] at h2
    rw [ev_psc, ev_psub, ev_psc, ev_psc, Rat.intCast_mul]
    generalize ev (pd g) x = g1 at *
    generalize ev (pd f) x = f1 at *
    generalize ev (pd s) x = s1 at *
    grind
  generalize htt : psub (psc A b) (psc (c2 * K) (pd s)) = t at ht
  -- the constant as a combination of s, s' and t
  have hc : ∀ x, ev (pmul v t) x = ((A * c1 * c2 : Int) : Rat) + ev (psc (-(c2 * K)) u) x * ev s x + ev (psc (-(c2 * K)) v) x * ev (pd s) x := by
    have h0 : ∀ x, ev g x * ev (psc (A * c1 * c2) [1]) x = ev g x * ev (padd (padd (pmul (psc (c2 * K) u) s) (pmul (psc (c2 * K) v) (pd s))) (pmul v t)) x := fun x => by
      have h1 := e' x
      have h2 := eb x
      have h3 := e x
      have h4 := ht x
      rw [deriv_ev] at h2
      rw [ev_psc] at h4
      rw [ev_psc, ev_one, ev_padd, ev_padd, ev_pmul, ev_pmul, ev_pmul, ev_psc, ev_psc, Rat.intCast_mul, Rat.intCast_mul, Rat.intCast_mul]
      rw [Rat.intCast_mul] at h4
      generalize ev (pd g) x = g1 at *
      generalize ev (pd f) x = f1 at *
      generalize ev (pd s) x = s1 at *
      generalize ev t x = t0 at *
      generalize ev s x = s0 at *
      generalize ev g x = g0 at *
      generalize ev f x = f0 at *
      generalize ev u x = u0 at *
      generalize ev v x = v0 at *
      generalize (A : Rat) = a at *
      generalize (K : Rat) = k at *
      generalize (c1 : Rat) = d1 at *
      generalize (c2 : Rat) = d2 at *
      have q1 : a * d2 * (d1 * g0) = a * d2 * (u0 * f0 + v0 * f1) := by rw [h2]
      have q2 : d2 * u0 * (a * f0) = d2 * u0 * (k * (s0 * g0)) := by rw [h3]
      have q3 : d2 * v0 * (a * f1) = d2 * v0 * (k * (s1 * g0 + s0 * g1)) := by rw [h1]
      have q4 : v0 * (d2 * k * s0 * g1) = v0 * (g0 * t0) := by rw [h4]
      grind
    intro x
    have h1 := cancel_big hg h0 x
    rw [ev_psc, ev_one, ev_padd, ev_padd, ev_pmul, ev_pmul, ev_psc, ev_psc] at h1
    rw [ev_psc, ev_psc, Rat.intCast_neg]
    grind
  have hgl : g.length = (g.length - 1) + 1 := by
    have : g.length ≠ 0 := fun q => lead_ne_nil hg (List.length_eq_zero_iff.mp q)
    omega
  refine ⟨?_, ?_⟩
  · -- t ^ N lies in the ideal
    obtain ⟨a, b', ew⟩ := wrec_ideal s t (c2 * K) (g.length - 1 + 1)
    have hw : ∀ x, ev (wrec (psc (c2 * K) s) t (g.length - 1 + 1)) x = 0 := fun x => by
      have h1 : ∀ x, ev g x * ev (wrec (psc (c2 * K) s) t (g.length - 1 + 1)) x = ev g x * ev [] x := fun x => by
        rw [← wrec_ok ht, pdn_zero _ g hg hgl, ev_nil]
        grind
      exact cancel_big hg h1 x
    obtain ⟨a2, b2, ep⟩ := ideal_pow hc (g.length - 1 + 1)
    refine ⟨(A * c1 * c2) ^ (g.length - 1 + 1), psub (psc (-1) (pmul (ppow v (g.length - 1 + 1)) a)) a2, psub (psc (-1) (pmul (ppow v (g.length - 1 + 1)) b')) b2, pow_ne_int (Int.mul_ne_zero (Int.mul_ne_zero hA hc1) hc2) _, fun x => ?_⟩
    have h1 := ew x
    have h2 := ep x
    rw [hw x] at h1
    rw [ev_psub, ev_psub, ev_psc, ev_psc, ev_pmul, ev_pmul, ev_ppow, neg_one_cast]
    rw [ev_pmul, rmul_pow] at h2
    generalize ev t x ^ (g.length - 1 + 1) = T at *
    generalize ev v x ^ (g.length - 1 + 1) = V at *
    generalize (((A * c1 * c2) ^ (g.length - 1 + 1) : Int) : Rat) = Z at *
    grind
  · obtain ⟨G, hG, eG⟩ := pdn_const (g.length - 1) g hg hgl
    refine ⟨K * ((c2 * K) ^ (g.length - 1) * G), psc A (wrec (psc (c2 * K) s) t (g.length - 1)), g.length - 1 + 1, Int.mul_ne_zero hK (Int.mul_ne_zero (pow_ne_int (Int.mul_ne_zero hc2 hK) _) hG), fun x => ?_⟩
    have h1 := wrec_ok ht (g.length - 1) x
    have h2 := e x
    rw [eG, ev_psc, rmul_pow] at h1
    rw [ev_psc, Rat.intCast_mul, Rat.intCast_mul, Rat.intCast_pow, Rat.pow_succ]
    generalize ev s x ^ (g.length - 1) = S at *
    generalize ((c2 * K : Int) : Rat) ^ (g.length - 1) = Q at *
    generalize ev (wrec (psc (c2 * K) s) t (g.length - 1)) x = w at *
    have h3 : (A : Rat) * ev f x * w = (K : Rat) * (ev s x * ev g x) * w := by rw [h2]
    grind
end Yk
end
section
/-! Bounds on an interval [0, R], small steps. -/
namespace Yk
def ab (x : Rat) : Rat := if 0 ≤ x then x else -x
theorem ab_pos {x : Rat} (h : 0 ≤ x) : ab x = x := if_pos h
theorem ab_neg {x : Rat} (h : x ≤ 0) : ab x = -x := by
  unfold ab
  split <;> grind
theorem ab_nn (x : Rat) : 0 ≤ ab x := by
  unfold ab
  split <;> grind
theorem le_ab (x : Rat) : x ≤ ab x := by
  unfold ab
  split <;> grind
theorem neg_le_ab (x : Rat) : -x ≤ ab x := by
  unfold ab
  split <;> grind
theorem ab_add (x y : Rat) : ab (x + y) ≤ ab x + ab y := by
  unfold ab
  split <;> split <;> split <;> grind
theorem ab_minus (x : Rat) : ab (-x) = ab x := by
  unfold ab
  split <;> split <;> grind
theorem ab_sub (x y : Rat) : ab (x - y) ≤ ab x + ab y := by
  unfold ab
  split <;> split <;> split <;> grind
theorem ab_mul (x y : Rat) : ab (x * y) = ab x * ab y := by
  rcases Rat.le_total (a := 0) (b := x) with h | h <;> rcases Rat.le_total (a := 0) (b := y) with k | k
  · rw [ab_pos h, ab_pos k, ab_pos (Rat.mul_nonneg h k)]
  · have := Rat.mul_nonneg h (show (0 : Rat) ≤ -y by grind)
    rw [ab_pos h, ab_neg k, ab_neg (by grind)]
    grind
  · have := Rat.mul_nonneg (show (0 : Rat) ≤ -x by grind) k
    rw [ab_neg h, ab_pos k, ab_neg (by grind)]
    grind
  · have := Rat.mul_nonneg (show (0 : Rat) ≤ -x by grind) (show (0 : Rat) ≤ -y by grind)
    rw [ab_neg h, ab_neg k, ab_pos (by grind)]
    grind
theorem ab_zero : ab 0 = 0 := rfl
theorem ab_ne {x : Rat} (h : x ≠ 0) : 0 < ab x := by
  unfold ab
  split <;> grind
theorem mul_le {a b c d : Rat} (h1 : a ≤ b) (h2 : c ≤ d) (h3 : 0 ≤ c) (h4 : 0 ≤ b) : a * c ≤ b * d := by
  have h5 := Rat.mul_le_mul_of_nonneg_right h1 h3
  have h6 := Rat.mul_le_mul_of_nonneg_left h2 h4
  grind
theorem small {L d : Rat} (hL : 0 < L) (hd : 0 < d) : ∃ h : Rat, 0 < h ∧ L * h ≤ d := by
  refine ⟨d * L⁻¹, Rat.mul_pos hd (Rat.inv_pos.mpr hL), ?_⟩
  have := Rat.mul_inv_cancel L (by grind)
  have e : L * (d * L⁻¹) = d * (L * L⁻¹) := by grind
  rw [e, this]
  grind
theorem small_mono {L d h k : Rat} (hL : 0 < L) (h1 : L * h ≤ d) (h2 : k ≤ h) : L * k ≤ d := by
  have := Rat.mul_le_mul_of_nonneg_left h2 (show (0 : Rat) ≤ L by grind)
  grind

section
variable {R : Rat} (hR : 0 ≤ R)
include hR
theorem bdd : ∀ l : List Int, ∃ M : Rat, 0 < M ∧ ∀ x, 0 ≤ x → x ≤ R → ab (ev l x) ≤ M
  | [] => ⟨1, by grind, fun x _ _ => by rw [ev_nil, ab_zero]; grind⟩
  | a :: l => by
    obtain ⟨M, hM, h⟩ := bdd l
    refine ⟨ab a + R * M + 1, ?_, fun x h0 h1 => ?_⟩
    · have := ab_nn a
      have := Rat.mul_nonneg hR (show (0 : Rat) ≤ M by grind)
      grind
    · have h2 := h x h0 h1
      have h3 := ab_add a (x * ev l x)
      rw [ab_mul, ab_pos h0] at h3
      have h4 := mul_le h1 h2 (ab_nn _) hR
      rw [ev_cons]
      grind
theorem lip : ∀ l : List Int, ∃ L : Rat, 0 < L ∧ ∀ x y, 0 ≤ x → x ≤ R → 0 ≤ y → y ≤ R → ab (ev l x - ev l y) ≤ L * ab (x - y)
  | [] => ⟨1, by grind, fun x y _ _ _ _ => by
      rw [ev_nil, ev_nil, show (0 : Rat) - 0 = 0 by grind, ab_zero]
      have := ab_nn (x - y)
      grind⟩
  | a :: l => by
    obtain ⟨L, hL, h⟩ := lip l
    obtain ⟨M, hM, hb⟩ := bdd hR l
    refine ⟨R * L + M, ?_, fun x y x0 x1 y0 y1 => ?_⟩
    · have := Rat.mul_nonneg hR (show (0 : Rat) ≤ L by grind)
      grind
    · have h2 := h x y x0 x1 y0 y1
      have h3 := hb y y0 y1
      have e : ev (a :: l) x - ev (a :: l) y = x * (ev l x - ev l y) + (x - y) * ev l y := by
        rw [ev_cons, ev_cons]
        grind
      rw [e]
      have h4 := ab_add (x * (ev l x - ev l y)) ((x - y) * ev l y)
      rw [ab_mul, ab_mul, ab_pos x0] at h4
      have h5 := mul_le x1 h2 (ab_nn _) hR
      have h6 := Rat.mul_le_mul_of_nonneg_left h3 (ab_nn (x - y))
      grind
theorem tay : ∀ l : List Int, ∃ L : Rat, 0 < L ∧ ∀ x y, 0 ≤ x → x ≤ R → 0 ≤ y → y ≤ R → ab (ev l y - ev l x - ev (pd l) x * (y - x)) ≤ L * (ab (y - x) * ab (y - x))
  | [] => ⟨1, by grind, fun x y _ _ _ _ => by
      rw [ev_nil, ev_nil, show ev (pd []) x = 0 from rfl, show (0 : Rat) - 0 - 0 * (y - x) = 0 by grind, ab_zero]
      have := Rat.mul_nonneg (ab_nn (y - x)) (ab_nn (y - x))
      grind⟩
  | a :: l => by
    obtain ⟨L, hL, h⟩ := tay l
    obtain ⟨M, hM, hb⟩ := bdd hR (pd l)
    refine ⟨R * L + M, ?_, fun x y x0 x1 y0 y1 => ?_⟩
    · have := Rat.mul_nonneg hR (show (0 : Rat) ≤ L by grind)
      grind
    · have h2 := h x y x0 x1 y0 y1
      have h3 := hb x x0 x1
      have e : ev (a :: l) y - ev (a :: l) x - ev (pd (a :: l)) x * (y - x) = y * (ev l y - ev l x - ev (pd l) x * (y - x)) + ((y - x) * (y - x)) * ev (pd l) x := by
        rw [ev_cons, ev_cons, ev_pd_cons]
        grind
      rw [e]
      have h4 := ab_add (y * (ev l y - ev l x - ev (pd l) x * (y - x))) (((y - x) * (y - x)) * ev (pd l) x)
      rw [ab_mul, ab_mul, ab_mul, ab_pos y0] at h4
      have h5 := mul_le y1 h2 (ab_nn _) hR
      have h6 := Rat.mul_le_mul_of_nonneg_left h3 (Rat.mul_nonneg (ab_nn (y - x)) (ab_nn (y - x)))
      grind
end

/-! ### going on by small steps -/
theorem nat_step {a b h : Rat} (hh : 0 < h) : ∃ N : Nat, b - a ≤ (N : Rat) * h := by
  refine ⟨((b - a) * h⁻¹).ceil.toNat, ?_⟩
  have h1 := Rat.le_ceil (x := (b - a) * h⁻¹)
  have h2 : (((b - a) * h⁻¹).ceil : Int) ≤ (((b - a) * h⁻¹).ceil.toNat : Int) := Int.self_le_toNat _
  have h3 : ((((b - a) * h⁻¹).ceil : Int) : Rat) ≤ ((((b - a) * h⁻¹).ceil.toNat : Int) : Rat) := Rat.intCast_le_intCast.mpr h2
  rw [Rat.intCast_natCast] at h3
  have h4 : (b - a) * h⁻¹ ≤ ((((b - a) * h⁻¹).ceil.toNat : Nat) : Rat) := Rat.le_trans h1 h3
  have h5 := Rat.mul_le_mul_of_nonneg_right h4 (show (0 : Rat) ≤ h by grind)
  have h6 := Rat.mul_inv_cancel h (by grind)
  have e : (b - a) * h⁻¹ * h = (b - a) * (h * h⁻¹) := by grind
  rw [e, h6] at h5
  grind
theorem by_steps {T : Rat → Rat → Prop} {lo R h : Rat} (hh : 0 < h) (refl : ∀ a, lo ≤ a → a ≤ R → T a a) (step : ∀ a b, lo ≤ a → a < b → b ≤ R → b - a ≤ h → T a b)
    (trans : ∀ a c b, lo ≤ a → a ≤ c → c ≤ b → b ≤ R → T a c → T c b → T a b) : ∀ a b, lo ≤ a → a ≤ b → b ≤ R → T a b := by
  have key : ∀ (N : Nat) (a b : Rat), lo ≤ a → a ≤ b → b ≤ R → b - a ≤ (N : Rat) * h → T a b := by
    intro N
    induction N with
    | zero =>
      intro a b h0 h1 h2 h3
      have z : ((0 : Nat) : Rat) = 0 := rfl
      rw [z] at h3
      have e : a = b := by grind
      subst e
      exact refl a h0 h2
    | succ N ih =>
      intro a b h0 h1 h2 h3
      rw [Rat.natCast_add] at h3
      have z : ((1 : Nat) : Rat) = 1 := rfl
      rw [z] at h3
      by_cases q : b - a ≤ h
      · by_cases e : a = b
        · subst e
          exact refl a h0 h2
        · exact step a b h0 (by grind) h2 q
      · refine trans a (a + h) b h0 (by grind) (by grind) h2 (step a (a + h) h0 (by grind) (by grind) (by grind)) (ih (a + h) b (by grind) (by grind) h2 (by grind))
  intro a b h0 h1 h2
  obtain ⟨N, hN⟩ := nat_step (a := a) (b := b) hh
  exact key N a b h0 h1 h2 hN
theorem sign_trans {a b c : Rat} (h1 : 0 < a * c) (h2 : 0 < c * b) : 0 < a * b := by
  have h3 := Rat.mul_pos h1 h2
  have hc : c ≠ 0 := fun z => by
    rw [z] at h1
    grind
  have e : a * c * (c * b) = (a * b) * (c * c) := by grind
  rw [e] at h3
  have hcc : 0 < c * c := by
    have := ab_mul c c
    have h4 := Rat.mul_pos (ab_ne hc) (ab_ne hc)
    rcases Rat.le_total (a := 0) (b := c) with q | q
    · rw [ab_pos q] at h4
      exact h4
    · rw [ab_neg q] at h4
      grind
  exact (Rat.mul_pos_iff_of_pos_right hcc).mp h3
/-- near each other, far from 0: the same sign -/
theorem same_sign {p q e : Rat} (h : ab (p - q) < e) (he : e ≤ ab p) : 0 < p * q := by
  rcases Rat.le_total (a := 0) (b := p) with k | k
  · rw [ab_pos k] at he
    have := le_ab (p - q)
    exact Rat.mul_pos (by have := ab_nn (p - q); grind) (by grind)
  · rw [ab_neg k] at he
    have := neg_le_ab (p - q)
    have h1 : 0 < (-p) * (-q) := Rat.mul_pos (by have := ab_nn (p - q); grind) (by grind)
    grind
/-- away from 0 the sign stays -/
theorem keeps_sign {R : Rat} (hR : 0 ≤ R) (l : List Int) {a b e : Rat} (ha : 0 ≤ a) (hab : a ≤ b) (hb : b ≤ R) (he : 0 < e) (h : ∀ x, a ≤ x → x ≤ b → e ≤ ab (ev l x)) : 0 < ev l a * ev l b := by
  obtain ⟨L, hL, hl⟩ := lip hR l
  obtain ⟨s, hs, hs2⟩ := small (L := L) (d := e * (1/2 : Rat)) hL (by grind)
  refine by_steps (T := fun x y => 0 < ev l x * ev l y) (lo := a) (R := b) hs (fun x h0 h1 => ?_) (fun x y h0 h1 h2 h3 => ?_) (fun x c y _ _ _ _ k1 k2 => sign_trans k1 k2) a b (Rat.le_refl) hab (Rat.le_refl)
  · refine same_sign (e := e) ?_ (h x h0 h1)
    rw [show ev l x - ev l x = 0 by grind, ab_zero]
    exact he
  · refine same_sign (e := e) ?_ (h x h0 (by grind))
    have h4 := hl x y (by grind) (by grind) (by grind) (by grind)
    have h5 : ab (x - y) = y - x := by
      rw [ab_neg (by grind)]
      grind
    rw [h5] at h4
    have h6 := small_mono hL hs2 h3
    grind
end Yk
end
section
/-! The chain of remainders and its changes of sign. -/
namespace Yk
def negl (l : List Int) : List Int := l.map (fun a => 0 - a)
def chl : Nat → List Int → List Int → List (List Int)
  | 0, p, q => [p, q]
  | n + 1, p, q => if 1 < q.length then p :: chl n q (negl (prim (remd p q))) else [p, q]
def chain (s : List Int) : List (List Int) := (chl s.length s (deriv s)).filter (fun one => decide (one ≠ []))
theorem ev_negl (l : List Int) (x : Rat) : ev (negl l) x = -(ev l x) := by
  have : negl l = psc (-1) l := List.map_congr_left fun a _ => by omega
  rw [this, ev_psc, neg_one_cast]
  grind
theorem lead_negl (l : List Int) : lead (negl l) = -(lead l) := by
  unfold negl
  rw [lead_map (by decide)]
  omega
theorem negl_len (l : List Int) : (negl l).length = l.length := List.length_map ..
inductive SC : List Int → List Int → List (List Int) → Prop
  | fin (p : List Int) (c : Int) : c ≠ 0 → SC p [c] []
  | go (p q r : List Int) (t : List (List Int)) (m k : Int) (Q : List Int) : 0 < m → 0 < k → (∀ x, (m : Rat) * ev p x = ev Q x * ev q x - (k : Rat) * ev r x) → SC q r t → SC p q (r :: t)
theorem SC.bz {p q : List Int} {t : List (List Int)} (h : SC p q t) : Bz p q := by
  induction h with
  | fin p c hc => exact ⟨c, [], [1], hc, fun x => by rw [ev_nil, ev_one, ev_const]; grind⟩
  | go p q r t m k Q hm hk e _ ih =>
    obtain ⟨c, u, v, hc, eb⟩ := ih
    refine ⟨k * c, psc (-m) v, padd (psc k u) (pmul v Q), Int.mul_ne_zero (by omega) hc, fun x => ?_⟩
    have e1 := e x
    have e2 := eb x
    rw [ev_psc, ev_padd, ev_psc, ev_pmul, Rat.intCast_neg, Rat.intCast_mul]
    generalize ev p x = p0 at *
    generalize ev q x = q0 at *
    generalize ev r x = r0 at *
    generalize ev u x = u0 at *
    generalize ev v x = v0 at *
    have e3 : (k : Rat) * (u0 * q0 + v0 * r0) = (k : Rat) * c := by rw [e2]
    have e4 : v0 * ((m : Rat) * p0) = v0 * (ev Q x * q0 - (k : Rat) * r0) := by rw [e1]
    grind
theorem bz_nil {p : List Int} (hp : lead p ≠ 0) (h2 : 2 ≤ p.length) (b : Bz p []) : False := by
  obtain ⟨c, u, v, hc, e⟩ := b
  have h := (div_short (g := p) (a := u) (r := [c]) hp (by simp only [List.length_singleton]; omega) (fun x => by
    have := e x
    rw [ev_nil] at this
    rw [ev_const]
    grind) 0).1
  rw [ev_const] at h
  exact cast_ne hc h
theorem bz_next {p q r Q : List Int} {m k : Int} (hm : 0 < m) (b : Bz p q) (e : ∀ x, (m : Rat) * ev p x = ev Q x * ev q x - (k : Rat) * ev r x) : Bz q r := by
  obtain ⟨c, u, v, hc, eb⟩ := b
  refine ⟨m * c, padd (pmul u Q) (psc m v), psc (-k) u, Int.mul_ne_zero (by omega) hc, fun x => ?_⟩
  have e1 := e x
  have e2 := eb x
  rw [ev_psc, ev_padd, ev_psc, ev_pmul, Rat.intCast_neg, Rat.intCast_mul]
  have e3 : (m : Rat) * (ev u x * ev p x + ev v x * ev q x) = (m : Rat) * c := by rw [e2]
  have e4 : ev u x * ((m : Rat) * ev p x) = ev u x * (ev Q x * ev q x - (k : Rat) * ev r x) := by rw [e1]
  grind
/-- the program's chain is such a chain -/
theorem chl_ok : ∀ (n : Nat) (p q : List Int), lead p ≠ 0 → 2 ≤ p.length → Trm q → q.length < p.length → q.length ≤ n → Bz p q → ∃ t, chl n p q = p :: q :: t ∧ SC p q t ∧ ∀ o ∈ q :: t, o ≠ []
  | 0, p, q, hp, h2, _, _, hn, b => by
    have e : q = [] := List.length_eq_zero_iff.mp (by omega)
    subst e
    exact (bz_nil hp h2 b).elim
  | n + 1, p, q, hp, h2, ht, hl, hn, b => by
    unfold chl
    by_cases h1 : 1 < q.length
    · rw [if_pos h1]
      have hq : lead q ≠ 0 := by
        rcases ht with z | z
        · rw [z] at h1
          simp at h1
        · exact z
      obtain ⟨⟨m, Q, hm, em⟩, hlr, htr⟩ := remd_ev (one := p) hq
      obtain ⟨k, hk, ek⟩ := prim_ev (remd p q)
      have er : ∀ x, (m : Rat) * ev p x = ev Q x * ev q x - (k : Rat) * ev (negl (prim (remd p q))) x := fun x => by
        have e1 := em x
        have e2 := ek x
        rw [ev_negl]
        grind
      have hlen : (negl (prim (remd p q))).length < q.length := by
        rw [negl_len, prim_len, htr.eq]
        exact hlr
      have htn : Trm (negl (prim (remd p q))) := by
        rcases prim_trm (remd p q) with z | z
        · left
          rw [z]
          rfl
        · right
          rw [lead_negl]
          omega
      obtain ⟨t, e1, e2, e3⟩ := chl_ok n q _ hq (by omega) htn hlen (by omega) (bz_next hm b er)
      refine ⟨_ :: t, by rw [e1], .go p q _ t m k Q hm hk er e2, fun o ho => ?_⟩
      rcases List.mem_cons.mp ho with z | z
      · rw [z]
        exact lead_ne_nil hq
      · exact e3 o z
    · rw [if_neg h1]
      have hq : q ≠ [] := fun z => by
        subst z
        exact bz_nil hp h2 b
      match q, hq, h1, ht with
      | [c], _, _, ht =>
        refine ⟨[], rfl, .fin p c ?_, fun o ho => ?_⟩
        · rcases ht with z | z
          · cases z
          · exact z
        · rw [List.mem_singleton.mp ho]
          simp
      | a :: b :: l, _, h1, _ => exact absurd (by simp) h1
theorem chain_ok {s : List Int} (h : lead s ≠ 0) (h2 : 2 ≤ s.length) (b : Bz s (pd s)) : ∃ q t, chain s = s :: q :: t ∧ SC s q t ∧ (∀ x, ev q x = ev (pd s) x) := by
  obtain ⟨h3, h4⟩ := ev_deriv_lead h h2
  have b' : Bz s (deriv s) := by
    obtain ⟨c, u, v, hc, e⟩ := b
    exact ⟨c, u, v, hc, fun x => by rw [deriv_ev]; exact e x⟩
  obtain ⟨t, e1, e2, e3⟩ := chl_ok s.length s (deriv s) h h2 (.inr h3) (by omega) (by omega) b'
  refine ⟨deriv s, t, ?_, e2, deriv_ev s⟩
  unfold chain
  rw [e1]
  refine List.filter_eq_self.mpr fun o ho => ?_
  rcases List.mem_cons.mp ho with z | z
  · rw [z]
    exact decide_eq_true (lead_ne_nil h)
  · exact decide_eq_true (e3 o z)

/-! ### changes of sign -/
/-- the number of changes, c the last number other than 0 ahead of the list -/
def chg : Rat → List Rat → Nat
  | _, [] => 0
  | c, v :: l => if v = 0 then chg c l else (if c * v < 0 then 1 else 0) + chg v l
def vals (x : Rat) (l : List (List Int)) : List Rat := l.map (fun p => ev p x)
def var (l : List (List Int)) (x : Rat) : Nat := chg 0 (vals x l)
/-- on a small step each inner one keeps its sign, or its neighbours have unlike ones -/
def Fine (a b : Rat) : List Int → List Int → List (List Int) → Prop
  | _, _, [] => True
  | p, q, r :: t => (0 < ev q a * ev q b ∨ (ev p a * ev r a < 0 ∧ ev p b * ev r b < 0)) ∧ Fine a b q r t
theorem chg_cons (c v : Rat) (l : List Rat) : chg c (v :: l) = if v = 0 then chg c l else (if c * v < 0 then 1 else 0) + chg v l := rfl
theorem chg_pos {c v : Rat} {l : List Rat} (h : 0 < c * v) : chg c (v :: l) = chg v l := by
  rw [chg_cons]
  have hv : v ≠ 0 := fun z => by
    rw [z] at h
    grind
  rw [if_neg hv, if_neg (by grind), Nat.zero_add]
theorem neg_trans {a b c : Rat} (h1 : a * b < 0) (h2 : 0 < a * c) : c * b < 0 := by
  have h3 : 0 < c * (-b) := sign_trans (c := a) (by grind) (by grind)
  grind
theorem chg_two {c u v : Rat} {l : List Rat} (h : c * v < 0) : chg c (u :: v :: l) = 1 + chg v l := by
  have hv : v ≠ 0 := fun z => by
    rw [z] at h
    grind
  have hc : c ≠ 0 := fun z => by
    rw [z] at h
    grind
  by_cases hu : u = 0
  · rw [chg_cons, if_pos hu, chg_cons, if_neg hv, if_pos h]
  · rw [chg_cons, if_neg hu, chg_cons, if_neg hv]
    by_cases k : c * u < 0
    · rw [if_pos k]
      have k2 : ¬ u * v < 0 := fun z => by
        -- c u < 0, u v < 0 : c v > 0
        have := sign_trans (a := c) (b := -(-v)) (c := -u) (by grind) (by grind)
        grind
      rw [if_neg k2]
      omega
    · rw [if_neg k]
      have k1 : 0 < c * u := by
        have h1 : c * u ≠ 0 := fun z => by grind
        grind
      have k2 : u * v < 0 := neg_trans h (by grind)
      rw [if_pos k2]
      omega
theorem sq_pos {y : Rat} (hy : y ≠ 0) : 0 < y * y := by
  have := Rat.mul_pos (ab_ne hy) (ab_ne hy)
  rw [← ab_mul] at this
  rcases Rat.le_total (a := 0) (b := y) with z | z
  · rw [ab_pos (Rat.mul_nonneg z z)] at this
    exact this
  · have h9 := Rat.mul_nonneg (show (0 : Rat) ≤ -y by grind) (show (0 : Rat) ≤ -y by grind)
    rw [ab_pos (by grind)] at this
    exact this
theorem fine_same {a b : Rat} : ∀ (n : Nat) (p q : List Int) (t : List (List Int)), t.length ≤ n → SC p q t → Fine a b p q t → ∀ α β : Rat, 0 < α * ev p a → 0 < β * ev p b → 0 < ev p a * ev p b → chg α (vals a (q :: t)) = chg β (vals b (q :: t)) := by
  intro n
  induction n using Nat.strongRecOn with
  | ind n IH =>
  intro p q t hn s hF α β ha hb hab
  cases s with
  | fin _ c hc =>
    show chg α [ev [c] a] = chg β [ev [c] b]
    rw [ev_const, ev_const, chg_cons, chg_cons, if_neg (cast_ne hc), if_neg (cast_ne hc)]
    have h1 : 0 < α * β := sign_trans ha (by have := sign_trans hab (show 0 < ev p b * β by grind); grind)
    congr 1
    by_cases k : α * (c : Rat) < 0
    · rw [if_pos k, if_pos (neg_trans k h1)]
    · rw [if_neg k, if_neg (fun z => k (neg_trans z (show 0 < β * α by grind)))]
  | go _ _ r t m k Q hm hk e s =>
    obtain ⟨hq, hF2⟩ := hF
    have hn' : t.length < n := by simp only [List.length_cons] at hn; omega
    rcases hq with hq | ⟨hra, hrb⟩
    · -- q keeps its sign
      show chg α (ev q a :: vals a (r :: t)) = chg β (ev q b :: vals b (r :: t))
      have qa : ev q a ≠ 0 := fun z => by rw [z] at hq; grind
      have qb : ev q b ≠ 0 := fun z => by rw [z] at hq; grind
      rw [chg_cons, if_neg qa, chg_cons, if_neg qb]
      rw [IH t.length hn' q r t (Nat.le_refl _) s hF2 (ev q a) (ev q b) (sq_pos qa) (sq_pos qb) hq]
      congr 1
      have h1 : 0 < α * β := sign_trans ha (by have := sign_trans hab (show 0 < ev p b * β by grind); grind)
      by_cases k : α * ev q a < 0
      · have k2 : β * ev q a < 0 := neg_trans k h1
        have k3 : β * ev q b < 0 := by
          have := neg_trans (a := ev q a) (b := β) (c := ev q b) (by grind) hq
          grind
        rw [if_pos k, if_pos k3]
      · rw [if_neg k, if_neg (fun z => ?_)]
        have k2 : β * ev q a < 0 := by
          have := neg_trans (a := ev q b) (b := β) (c := ev q a) (by grind) (by grind)
          grind
        exact k (neg_trans k2 (by grind))
    · -- q may change: its neighbours have unlike signs
      have ra : α * ev r a < 0 := by
        have := neg_trans (a := ev p a) (b := ev r a) (c := α) hra (by grind)
        exact this
      have rb : β * ev r b < 0 := neg_trans (a := ev p b) (b := ev r b) (c := β) hrb (by grind)
      show chg α (ev q a :: ev r a :: vals a t) = chg β (ev q b :: ev r b :: vals b t)
      rw [chg_two ra, chg_two rb]
      congr 1
      have hr : 0 < ev r a * ev r b := by
        -- r a opposite to p a, p b opposite to r b
        have h1 : 0 < (-(ev r a)) * ev p b := sign_trans (c := ev p a) (by grind) hab
        have h2 : 0 < (-(ev r a)) * (-(ev r b)) := sign_trans (c := ev p b) h1 (by grind)
        grind
      have rna : ev r a ≠ 0 := fun z => by rw [z] at hr; grind
      have rnb : ev r b ≠ 0 := fun z => by rw [z] at hr; grind
      cases s with
      | fin _ c hc => rfl
      | go _ _ r2 t2 m2 k2 Q2 hm2 hk2 e2 s2 =>
        exact IH t2.length (by simp only [List.length_cons] at hn'; omega) r r2 t2 (Nat.le_refl _) s2 hF2.2 (ev r a) (ev r b) (sq_pos rna) (sq_pos rnb) hr
end Yk
end
section
/-! Sturm's count on [0, R]. -/
namespace Yk
section
variable {R : Rat} (hR : 0 ≤ R)
include hR
/-- where q is small, its neighbours have unlike signs -/
theorem small_opp {p q r Q : List Int} {m k : Int} (hm : 0 < m) (hk : 0 < k) (e : ∀ x, (m : Rat) * ev p x = ev Q x * ev q x - (k : Rat) * ev r x) (b : Bz p q) :
    ∃ d : Rat, 0 < d ∧ ∀ x, 0 ≤ x → x ≤ R → ab (ev q x) ≤ d → ev p x * ev r x < 0 := by
  obtain ⟨c, u, v, hc, eb⟩ := b
  obtain ⟨Mu, hMu, hu⟩ := bdd hR u
  obtain ⟨Mv, hMv, hv⟩ := bdd hR v
  obtain ⟨MQ, hMQ, hQ⟩ := bdd hR Q
  have hca : 0 < ab (c : Rat) := ab_ne (cast_ne hc)
  have hmq : (0 : Rat) < (m : Rat) := by
    have := Rat.intCast_lt_intCast.mpr hm
    rw [zero_cast] at this
    exact this
  have hkq : (0 : Rat) < (k : Rat) := by
    have := Rat.intCast_lt_intCast.mpr hk
    rw [zero_cast] at this
    exact this
  -- Mv d ≤ |c| / 2
  obtain ⟨d1, hd1, hd1'⟩ := small (L := Mv) (d := ab (c : Rat) * (1/2 : Rat)) hMv (by grind)
  -- Mu δ ≤ |c| / 2: |p| is at least δ there
  obtain ⟨δ, hδ, hδ'⟩ := small (L := Mu) (d := ab (c : Rat) * (1/2 : Rat)) hMu (by grind)
  -- MQ d ≤ m δ / 2
  obtain ⟨d2, hd2, hd2'⟩ := small (L := MQ) (d := (m : Rat) * δ * (1/2 : Rat)) hMQ (by have := Rat.mul_pos hmq hδ; grind)
  refine ⟨min d1 d2, by grind, fun x x0 x1 hx => ?_⟩
  have h1 := eb x
  have h2 : ab (c : Rat) ≤ Mu * ab (ev p x) + Mv * min d1 d2 := by
    rw [← h1]
    have h3 := ab_add (ev u x * ev p x) (ev v x * ev q x)
    rw [ab_mul, ab_mul] at h3
    have h4 := Rat.mul_le_mul_of_nonneg_right (hu x x0 x1) (ab_nn (ev p x))
    have h5 := mul_le (hv x x0 x1) hx (ab_nn _) (by grind)
    grind
  have h6 := small_mono hMv hd1' (show min d1 d2 ≤ d1 by grind)
  have h7 : δ ≤ ab (ev p x) := by
    have h8 : Mu * δ ≤ Mu * ab (ev p x) := by grind
    exact Rat.le_of_mul_le_mul_left h8 hMu
  have h9 : ab (ev Q x * ev q x) ≤ (m : Rat) * δ * (1/2 : Rat) := by
    rw [ab_mul]
    have h10 := mul_le (hQ x x0 x1) hx (ab_nn _) (by grind)
    have h11 := small_mono hMQ hd2' (show min d1 d2 ≤ d2 by grind)
    grind
  have h12 := e x
  have h13 : (m : Rat) * δ ≤ (m : Rat) * ab (ev p x) := Rat.mul_le_mul_of_nonneg_left h7 (by grind)
  have h14 := Rat.mul_pos hmq hδ
  rcases Rat.le_total (a := 0) (b := ev p x) with z | z
  · rw [ab_pos z] at h7 h13
    have hp : 0 < ev p x := by grind
    have h15 := le_ab (ev Q x * ev q x)
    have h16 : (k : Rat) * ev r x < 0 := by grind
    have h17 : 0 < (k : Rat) * (-(ev r x)) := by grind
    have h18 := (Rat.mul_pos_iff_of_pos_left hkq).mp h17
    have := Rat.mul_pos hp h18
    grind
  · rw [ab_neg z] at h7 h13
    have hp : 0 < -(ev p x) := by grind
    have h15 := neg_le_ab (ev Q x * ev q x)
    have h17 : 0 < (k : Rat) * (ev r x) := by grind
    have h18 := (Rat.mul_pos_iff_of_pos_left hkq).mp h17
    have := Rat.mul_pos hp h18
    grind
/-- small steps are fine -/
theorem fine_step {p q : List Int} {t : List (List Int)} (s : SC p q t) : ∃ h : Rat, 0 < h ∧ ∀ a b, 0 ≤ a → a ≤ b → b ≤ R → b - a ≤ h → Fine a b p q t := by
  induction s with
  | fin p c hc => exact ⟨1, by grind, fun a b _ _ _ _ => trivial⟩
  | go p q r t m k Q hm hk e s ih =>
    obtain ⟨h, hh, hF⟩ := ih
    have bz : Bz p q := (SC.go p q r t m k Q hm hk e s).bz
    obtain ⟨d, hd, ho⟩ := small_opp hR hm hk e bz
    obtain ⟨L, hL, hl⟩ := lip hR q
    obtain ⟨h2, hh2, hh2'⟩ := small (L := L) (d := d * (1/2 : Rat)) hL (by grind)
    refine ⟨min h h2, by grind, fun a b a0 hab b1 hb => ⟨?_, hF a b a0 hab b1 (by grind)⟩⟩
    by_cases z : 0 < ev q a * ev q b
    · exact .inl z
    · right
      have l1 := hl a b a0 (by grind) (by grind) b1
      have e1 : ab (a - b) = b - a := by
        rw [ab_neg (by grind)]
        grind
      rw [e1] at l1
      have l2 := small_mono hL hh2' (show b - a ≤ h2 by grind)
      have l3 : ab (ev q a - ev q b) ≤ d * (1/2 : Rat) := by grind
      have small_ab : ab (ev q a) ≤ d ∧ ab (ev q b) ≤ d := by
        by_cases y : d ≤ ab (ev q a)
        · exact absurd (same_sign (e := d) (by grind) y) z
        · refine ⟨by grind, ?_⟩
          by_cases y2 : d ≤ ab (ev q b)
          · have := same_sign (p := ev q b) (q := ev q a) (e := d) (by
              have : ev q b - ev q a = -(ev q a - ev q b) := by grind
              rw [this, ab_minus]
              grind) y2
            exact absurd (by grind) z
          · grind
      exact ⟨ho a a0 (by grind) small_ab.1, ho b (by grind) b1 small_ab.2⟩
/-- a small step: s stays away from 0, or it climbs or falls throughout -/
theorem head_step {s q : List Int} (hq : ∀ x, ev q x = ev (pd s) x) (b : Bz s q) : ∃ h : Rat, 0 < h ∧ ∀ a b, 0 ≤ a → a < b → b ≤ R → b - a ≤ h →
    (0 < ev s a * ev s b ∧ ∃ η : Rat, 0 < η ∧ ∀ x, a ≤ x → x ≤ b → η ≤ ab (ev s x)) ∨
    (0 < ev q a ∧ 0 < ev q b ∧ ∀ x y, a ≤ x → x < y → y ≤ b → ev s x < ev s y) ∨ (ev q a < 0 ∧ ev q b < 0 ∧ ∀ x y, a ≤ x → x < y → y ≤ b → ev s y < ev s x) := by
  obtain ⟨c, u, v, hc, eb⟩ := b
  obtain ⟨Mu, hMu, hu⟩ := bdd hR u
  obtain ⟨Mv, hMv, hv⟩ := bdd hR v
  obtain ⟨L1, hL1, hl1⟩ := lip hR s
  obtain ⟨L2, hL2, hl2⟩ := lip hR q
  obtain ⟨L3, hL3, hl3⟩ := tay hR s
  have hca : 0 < ab (c : Rat) := ab_ne (cast_ne hc)
  obtain ⟨δ, hδ, hδ'⟩ := small (L := Mu) (d := ab (c : Rat) * (1/2 : Rat)) hMu (by grind)
  obtain ⟨ε, hε, hε'⟩ := small (L := Mv) (d := ab (c : Rat) * (1/2 : Rat)) hMv (by grind)
  obtain ⟨h1, hh1, hh1'⟩ := small (L := L1) (d := δ * (1/2 : Rat)) hL1 (by grind)
  obtain ⟨h2, hh2, hh2'⟩ := small (L := L2) (d := ε * (1/2 : Rat)) hL2 (by grind)
  obtain ⟨h3, hh3, hh3'⟩ := small (L := L3) (d := ε * (1/4 : Rat)) hL3 (by grind)
  refine ⟨min h1 (min h2 h3), by grind, fun a b a0 hab b1 hb => ?_⟩
  have near : ∀ (l : List Int) (L h d : Rat), 0 < L → L * h ≤ d → b - a ≤ h → (∀ x y, 0 ≤ x → x ≤ R → 0 ≤ y → y ≤ R → ab (ev l x - ev l y) ≤ L * ab (x - y)) → ∀ x, a ≤ x → x ≤ b → ab (ev l a - ev l x) ≤ d := by
    intro l L h d hL hd hbh hl x x0 x1
    have k1 := hl a x a0 (by grind) (by grind) (by grind)
    have k2 : ab (a - x) = x - a := by
      rw [ab_neg (by grind)]
      grind
    rw [k2] at k1
    have k3 := small_mono hL hd (show x - a ≤ h by grind)
    grind
  by_cases z : δ ≤ ab (ev s a)
  · left
    have n1 := near s L1 h1 _ hL1 hh1' (by grind) hl1
    refine ⟨same_sign (e := δ) (by have := n1 b (by grind) (by grind); grind) z, δ * (1/2 : Rat), by grind, fun x x0 x1 => ?_⟩
    have k1 := n1 x x0 x1
    have k2 := ab_add (ev s a - ev s x) (ev s x)
    have k3 : ev s a - ev s x + ev s x = ev s a := by grind
    rw [k3] at k2
    grind
  · right
    have hqa : ε ≤ ab (ev q a) := by
      have k1 := eb a
      have k2 : ab (c : Rat) ≤ Mu * δ + Mv * ab (ev q a) := by
        rw [← k1]
        have k3 := ab_add (ev u a * ev s a) (ev v a * ev q a)
        rw [ab_mul, ab_mul] at k3
        have k4 := mul_le (hu a a0 (by grind)) (show ab (ev s a) ≤ δ by grind) (ab_nn _) (by grind)
        have k5 := Rat.mul_le_mul_of_nonneg_right (hv a a0 (by grind)) (ab_nn (ev q a))
        grind
      have k6 : Mv * ε ≤ Mv * ab (ev q a) := by grind
      exact Rat.le_of_mul_le_mul_left k6 hMv
    have n2 := near q L2 h2 _ hL2 hh2' (by grind) hl2
    -- the step's error
    have err : ∀ x y, a ≤ x → x < y → y ≤ b → ab (ev s y - ev s x - ev q x * (y - x)) ≤ ε * (1/4 : Rat) * (y - x) := by
      intro x y x0 hxy y1
      have k1 := hl3 x y (by grind) (by grind) (by grind) (by grind)
      rw [← hq x, ab_pos (show (0 : Rat) ≤ y - x by grind)] at k1
      have k2 := small_mono hL3 hh3' (show y - x ≤ h3 by grind)
      have k3 := Rat.mul_le_mul_of_nonneg_right k2 (show (0 : Rat) ≤ y - x by grind)
      have k4 : L3 * ((y - x) * (y - x)) = L3 * (y - x) * (y - x) := by grind
      rw [k4] at k1
      grind
    rcases Rat.le_total (a := 0) (b := ev q a) with y | y
    · left
      rw [ab_pos y] at hqa
      have low : ∀ x, a ≤ x → x ≤ b → ε * (1/2 : Rat) ≤ ev q x := fun x x0 x1 => by
        have k1 := n2 x x0 x1
        have k2 := le_ab (ev q a - ev q x)
        grind
      refine ⟨by grind, by have := low b (by grind) (by grind); grind, fun x y x0 hxy y1 => ?_⟩
      have k1 := err x y x0 hxy y1
      have k2 := neg_le_ab (ev s y - ev s x - ev q x * (y - x))
      have k3 := Rat.mul_le_mul_of_nonneg_right (low x x0 (by grind)) (show (0 : Rat) ≤ y - x by grind)
      have k4 : 0 < ε * (y - x) := Rat.mul_pos hε (by grind)
      grind
    · right
      rw [ab_neg y] at hqa
      have low : ∀ x, a ≤ x → x ≤ b → ε * (1/2 : Rat) ≤ -(ev q x) := fun x x0 x1 => by
        have k1 := n2 x x0 x1
        have k2 := neg_le_ab (ev q a - ev q x)
        grind
      refine ⟨by grind, by have := low b (by grind) (by grind); grind, fun x y x0 hxy y1 => ?_⟩
      have k1 := err x y x0 hxy y1
      have k2 := le_ab (ev s y - ev s x - ev q x * (y - x))
      have k3 := Rat.mul_le_mul_of_nonneg_right (low x x0 (by grind)) (show (0 : Rat) ≤ y - x by grind)
      have k4 : 0 < ε * (y - x) := Rat.mul_pos hε (by grind)
      grind
/-- what Sturm says of a and b -/
structure St (s : List Int) (l : List (List Int)) (a b : Rat) : Prop where
  le : var l b ≤ var l a
  eq : ev s a ≠ 0 → var l a = var l b → ∃ η : Rat, 0 < η ∧ ∀ x, a ≤ x → x ≤ b → η ≤ ab (ev s x)
  no : (∀ x, a ≤ x → x ≤ b → 0 < ev s x * ev s a) → var l a = var l b
omit hR in
theorem var_cons (s q : List Int) (t : List (List Int)) (x : Rat) (h : ev q x ≠ 0) : var (s :: q :: t) x = (if ev s x ≠ 0 ∧ ev s x * ev q x < 0 then 1 else 0) + chg (ev q x) (vals x t) := by
  show chg 0 (ev s x :: ev q x :: vals x t) = _
  rw [chg_cons]
  by_cases z : ev s x = 0
  · rw [if_pos z, if_neg (fun q => q.1 z), chg_cons, if_neg h, if_neg (by grind)]
  · rw [if_neg z, if_neg (show ¬ (0 : Rat) * ev s x < 0 by grind), chg_cons, if_neg h, Nat.zero_add]
    by_cases y : ev s x * ev q x < 0
    · rw [if_pos y, if_pos ⟨z, y⟩]
    · rw [if_neg y, if_neg (fun q => y q.2)]
theorem sturm_step {s q : List Int} {t : List (List Int)} (hq : ∀ x, ev q x = ev (pd s) x) (sc : SC s q t) : ∃ h : Rat, 0 < h ∧ ∀ a b, 0 ≤ a → a < b → b ≤ R → b - a ≤ h → St s (s :: q :: t) a b := by
  obtain ⟨h1, hh1, hF⟩ := fine_step hR sc
  obtain ⟨h2, hh2, hH⟩ := head_step hR hq sc.bz
  refine ⟨min h1 h2, by grind, fun a b a0 hab b1 hb => ?_⟩
  have F := hF a b a0 (by grind) b1 (by grind)
  have same : ∀ (_ : 0 < ev s a * ev s b), var (s :: q :: t) a = var (s :: q :: t) b := fun hs => by
    have sa : ev s a ≠ 0 := fun z => by rw [z] at hs; grind
    have sb : ev s b ≠ 0 := fun z => by rw [z] at hs; grind
    show chg 0 (ev s a :: vals a (q :: t)) = chg 0 (ev s b :: vals b (q :: t))
    rw [chg_cons, chg_cons, if_neg sa, if_neg sb, if_neg (by grind), if_neg (by grind), fine_same t.length s q t (Nat.le_refl _) sc F (ev s a) (ev s b) (sq_pos sa) (sq_pos sb) hs]
  rcases hH a b a0 hab b1 (by grind) with ⟨hs, η, hη, hx⟩ | hmon
  · have e := same hs
    exact ⟨Nat.le_of_eq e.symm, fun _ _ => ⟨η, hη, hx⟩, fun _ => e⟩
  · -- s climbs or falls
    have hqq : 0 < ev q a * ev q b := by
      rcases hmon with ⟨k1, k2, _⟩ | ⟨k1, k2, _⟩
      · exact Rat.mul_pos k1 k2
      · have := Rat.mul_pos (show 0 < -(ev q a) by grind) (show 0 < -(ev q b) by grind)
        grind
    have qa : ev q a ≠ 0 := fun z => by rw [z] at hqq; grind
    have qb : ev q b ≠ 0 := fun z => by rw [z] at hqq; grind
    have W : chg (ev q a) (vals a t) = chg (ev q b) (vals b t) := by
      cases sc with
      | fin _ c hc => rfl
      | go _ _ r t m k Q hm hk e sc2 => exact fine_same t.length q r t (Nat.le_refl _) sc2 F.2 (ev q a) (ev q b) (sq_pos qa) (sq_pos qb) hqq
    have va := var_cons s q t a qa
    have vb := var_cons s q t b qb
    rw [W] at va
    -- the two ends
    have ends : (ev s b ≠ 0 ∧ ev s b * ev q b < 0 → ev s a ≠ 0 ∧ ev s a * ev q a < 0) ∧
        (ev s a ≠ 0 → ((ev s a * ev q a < 0) ↔ (ev s b * ev q b < 0)) → ∃ η : Rat, 0 < η ∧ ∀ x, a ≤ x → x ≤ b → η ≤ ab (ev s x)) := by
      have mono : ∀ (f : Rat → Rat), (∀ x y, a ≤ x → x < y → y ≤ b → f x < f y) → ∀ x y, a ≤ x → x ≤ y → y ≤ b → f x ≤ f y := fun f hf x y h1 h2 h3 => by
        by_cases e : x = y
        · rw [e]
          exact Rat.le_refl
        · have := hf x y h1 (by grind) h3
          grind
      have core : ∀ (f g : Rat → Rat), 0 < g a → 0 < g b → (∀ x y, a ≤ x → x < y → y ≤ b → f x < f y) →
          (f b ≠ 0 ∧ f b * g b < 0 → f a ≠ 0 ∧ f a * g a < 0) ∧ (f a ≠ 0 → ((f a * g a < 0) ↔ (f b * g b < 0)) → ∃ η : Rat, 0 < η ∧ ∀ x, a ≤ x → x ≤ b → η ≤ ab (f x)) := by
        intro f g ga gb hf
        have neg_iff : ∀ y z : Rat, 0 < z → (y * z < 0 ↔ y < 0) := fun y z hz => by
          constructor
          · intro h
            have h5 : 0 < (-y) * z := by grind
            have := (Rat.mul_pos_iff_of_pos_right hz).mp h5
            grind
          · intro h
            have := Rat.mul_pos (show 0 < -y by grind) hz
            grind
        have hab' := hf a b (Rat.le_refl) hab (Rat.le_refl)
        refine ⟨fun ⟨_, h⟩ => ?_, fun ha hi => ?_⟩
        · have h1 := (neg_iff _ _ gb).mp h
          have h2 : f a < 0 := by grind
          exact ⟨by grind, (neg_iff _ _ ga).mpr h2⟩
        · by_cases z : f a < 0
          · have h1 := (neg_iff _ _ gb).mp (hi.mp ((neg_iff _ _ ga).mpr z))
            refine ⟨-(f b), by grind, fun x x0 x1 => ?_⟩
            have := mono f hf x b x0 x1 (Rat.le_refl)
            have := neg_le_ab (f x)
            grind
          · refine ⟨f a, by grind, fun x x0 x1 => ?_⟩
            have := mono f hf a x (Rat.le_refl) x0 x1
            have := le_ab (f x)
            grind
      rcases hmon with ⟨k1, k2, k3⟩ | ⟨k1, k2, k3⟩
      · exact core (ev s) (ev q) k1 k2 k3
      · have c := core (fun x => -(ev s x)) (fun x => -(ev q x)) (by grind) (by grind) (fun x y h1 h2 h3 => by have := k3 x y h1 h2 h3; grind)
        have e1 : ∀ x, -(ev s x) * -(ev q x) = ev s x * ev q x := fun x => by grind
        simp only [e1, ab_minus] at c
        refine ⟨fun h => ?_, fun h hi => c.2 (by grind) hi⟩
        have := c.1 ⟨by grind, h.2⟩
        exact ⟨by grind, this.2⟩
    refine ⟨?_, fun ha heq => ?_, fun hx => ?_⟩
    · rw [va, vb]
      by_cases z : ev s b ≠ 0 ∧ ev s b * ev q b < 0
      · rw [if_pos z, if_pos (ends.1 z)]
        exact Nat.le_refl _
      · rw [if_neg z]
        omega
    · refine ends.2 ha ⟨fun h => ?_, fun h => ?_⟩
      · rw [va, vb, if_pos ⟨ha, h⟩] at heq
        by_cases z : ev s b ≠ 0 ∧ ev s b * ev q b < 0
        · exact z.2
        · rw [if_neg z] at heq
          omega
      · exact (ends.1 ⟨fun z => by rw [z] at h; grind, h⟩).2
    · exact same (by have := hx b (by grind) (Rat.le_refl); grind)
/-- Sturm's count between any two places -/
theorem sturm {s q : List Int} {t : List (List Int)} (hq : ∀ x, ev q x = ev (pd s) x) (sc : SC s q t) : ∀ a b, 0 ≤ a → a ≤ b → b ≤ R → St s (s :: q :: t) a b := by
  obtain ⟨h, hh, hs⟩ := sturm_step hR hq sc
  refine by_steps (T := St s (s :: q :: t)) hh (fun a a0 a1 => ⟨Nat.le_refl _, fun ha _ => ⟨ab (ev s a), ab_ne ha, fun x x0 x1 => ?_⟩, fun _ => rfl⟩) hs (fun a c b a0 hac hcb b1 k1 k2 => ⟨Nat.le_trans k2.le k1.le, fun ha e => ?_, fun hx => ?_⟩)
  · have : x = a := by grind
    rw [this]
    exact Rat.le_refl
  · have l1 := k1.le
    have l2 := k2.le
    obtain ⟨η1, hη1, h1⟩ := k1.eq ha (by omega)
    have hc : ev s c ≠ 0 := fun z => by
      have := h1 c hac (Rat.le_refl)
      rw [z, ab_zero] at this
      grind
    obtain ⟨η2, hη2, h2⟩ := k2.eq hc (by omega)
    refine ⟨min η1 η2, by grind, fun x x0 x1 => ?_⟩
    by_cases z : x ≤ c
    · have := h1 x x0 z
      grind
    · have := h2 x (by grind) x1
      grind
  · have e1 := k1.no fun x x0 x1 => hx x x0 (by grind)
    have e2 := k2.no fun x x0 x1 => sign_trans (hx x (by grind) x1) (by have := hx c hac hcb; grind)
    omega
end
end Yk
end
section
/-! The payments' polynomial, its simple part, and what the count tells of its signs. -/
namespace Yk
def strip : List Int → List Int
  | [] => []
  | a :: l => if a = 0 then strip l else a :: l
def simp1 (some : List Int) : List Int :=
  if (prim (strip (trim some))).length < 2 then prim (strip (trim some)) else quot (prim (strip (trim some))) (cfac (prim (strip (trim some))) (deriv (prim (strip (trim some)))))
theorem strip_head : ∀ {l : List Int}, (∃ a ∈ l, a ≠ 0) → ∃ a m, strip l = a :: m ∧ a ≠ 0
  | [], h => by obtain ⟨a, h, _⟩ := h; cases h
  | b :: l, h => by
    unfold strip
    by_cases z : b = 0
    · rw [if_pos z]
      obtain ⟨a, ha, hz⟩ := h
      rcases List.mem_cons.mp ha with e | e
      · exact absurd (e.trans z) hz
      · exact strip_head ⟨a, e, hz⟩
    · rw [if_neg z]
      exact ⟨b, l, rfl, z⟩
theorem strip_lead : ∀ {l : List Int}, lead l ≠ 0 → lead (strip l) = lead l
  | [], h => absurd rfl h
  | [a], h => by
    have h' : a ≠ 0 := h
    show lead (if a = 0 then strip [] else [a]) = a
    rw [if_neg h']
    rfl
  | a :: b :: l, h => by
    show lead (if a = 0 then strip (b :: l) else a :: b :: l) = lead (b :: l)
    by_cases z : a = 0
    · rw [if_pos z]
      exact strip_lead (l := b :: l) h
    · rw [if_neg z]
      rfl
theorem strip_ev : ∀ (l : List Int), ∃ n : Nat, ∀ x, ev l x = x ^ n * ev (strip l) x
  | [] => ⟨0, fun x => by show (0 : Rat) = _ * 0; grind⟩
  | a :: l => by
    unfold strip
    by_cases z : a = 0
    · rw [if_pos z]
      obtain ⟨n, h⟩ := strip_ev l
      refine ⟨n + 1, fun x => ?_⟩
      rw [z, ev_zcons, h, Rat.pow_succ]
      grind
    · rw [if_neg z]
      exact ⟨0, fun x => by rw [Rat.pow_zero]; grind⟩
/-- the payments' polynomial without its root 0, primitive -/
abbrev core (f : List Int) : List Int := prim (strip (trim f))
structure Core (f : List Int) : Prop where
  lead : lead (core f) ≠ 0
  zero : ev (core f) 0 ≠ 0
  sgn : ∀ x, 0 < x → ∃ c : Rat, 0 < c ∧ ev f x = c * ev (core f) x
  fst : ∃ a m, strip f = a :: m ∧ 0 < ev (core f) 0 * (a : Rat)
  lst : 0 < (Yk.lead (core f) : Rat) * (Yk.lead (trim f) : Rat)
theorem trim_cons_ne {c : Int} {l : List Int} (h : trim l ≠ []) : trim (c :: l) = c :: trim l := by
  show (match trim l with | [] => if c = 0 then [] else [c] | b :: m => c :: b :: m) = _
  cases e : trim l with
  | nil => exact absurd e h
  | cons x y => rfl
theorem strip_trim : ∀ (l : List Int), (∃ a ∈ l, a ≠ 0) → ∀ (a b : Int) (m k : List Int), strip l = a :: m → strip (trim l) = b :: k → a = b
  | [], h => by obtain ⟨a, h, _⟩ := h; cases h
  | c :: l, h => fun a b m k h1 h2 => by
    unfold strip at h1
    by_cases z : c = 0
    · rw [if_pos z] at h1
      have h3 : ∃ a ∈ l, a ≠ 0 := by
        obtain ⟨d, hd, hz⟩ := h
        rcases List.mem_cons.mp hd with e | e
        · exact absurd (e.trans z) hz
        · exact ⟨d, e, hz⟩
      have ht : trim l ≠ [] := fun q => by
        obtain ⟨d, hd, hz⟩ := h3
        exact hz (trim_nil q d hd)
      rw [trim_cons_ne ht, z] at h2
      have h4 : strip (trim l) = b :: k := by
        unfold strip at h2
        rw [if_pos rfl] at h2
        exact h2
      exact strip_trim l h3 a b m k h1 h4
    · rw [if_neg z] at h1
      have e2 : ∃ y, trim (c :: l) = c :: y := by
        by_cases ht : trim l = []
        · refine ⟨[], ?_⟩
          show (match trim l with | [] => if c = 0 then [] else [c] | b :: m => c :: b :: m) = _
          rw [ht]
          simp only [if_neg z]
        · exact ⟨trim l, trim_cons_ne ht⟩
      obtain ⟨y, e2⟩ := e2
      rw [e2] at h2
      unfold strip at h2
      rw [if_neg z] at h2
      have h3 := (List.cons.inj h1).1
      have h4 := (List.cons.inj h2).1
      rw [← h3, ← h4]
theorem cast_pos {c : Int} (h : 0 < c) : (0 : Rat) < (c : Rat) := by
  have := Rat.intCast_lt_intCast.mpr h
  rw [zero_cast] at this
  exact this
theorem core_ok {f : List Int} (h : ∃ a ∈ f, a ≠ 0) : Core f := by
  have ht : trim f ≠ [] := fun q => by
    obtain ⟨d, hd, hz⟩ := h
    exact hz (trim_nil q d hd)
  have hl := trim_lead f ht
  have hs : lead (strip (trim f)) = lead (trim f) := strip_lead hl
  obtain ⟨b, k, e1, hb⟩ := strip_head (l := trim f) ⟨_, lead_mem hl, hl⟩
  obtain ⟨a, m, e2, ha⟩ := strip_head h
  have eab := strip_trim f h _ _ _ _ e2 e1
  obtain ⟨c, hc, ec⟩ := prim_ev (strip (trim f))
  obtain ⟨n, en⟩ := strip_ev (trim f)
  have hc' := cast_pos hc
  have hp : lead (core f) ≠ 0 := by
    rcases prim_trm (strip (trim f)) with q | q
    · rw [prim_nil, trim_of_lead (by rw [hs]; exact hl)] at q
      rw [e1] at q
      cases q
    · exact q
  have h0 : ev (strip (trim f)) 0 = (b : Rat) := by
    rw [e1, ev_cons]
    grind
  have z0 := ec 0
  rw [h0] at z0
  have hb' := cast_ne hb
  have lc : lead (strip (trim f)) = (cont (strip (trim f)) : Int) * lead (core f) := by
    have hne : (cont (strip (trim f)) : Int) ≠ 0 := fun q => by
      have := allZ_trim (cont_zero (l := strip (trim f)) (by omega))
      rw [trim_of_lead (by rw [hs]; exact hl), e1] at this
      cases this
    show _ = _ * lead ((trim (strip (trim f))).map _)
    rw [lead_map (by simp), trim_of_lead (l := strip (trim f)) (by rw [hs]; exact hl)]
    have hd : (cont (strip (trim f)) : Int) ∣ lead (strip (trim f)) := cont_dvd (lead_mem (by rw [hs]; exact hl))
    rw [Int.mul_ediv_cancel' hd]
  refine ⟨hp, fun z => ?_, fun x hx => ⟨x ^ n * c, Rat.mul_pos (Rat.pow_pos hx) hc', ?_⟩, ⟨a, m, e2, ?_⟩, ?_⟩
  · rw [z] at z0
    grind
  · rw [← trim_ev f x, en x, ec x]
    grind
  · rw [eab]
    have h1 := sq_pos hb'
    have h2 : 0 < (c : Rat) * (ev (core f) 0 * (b : Rat)) := by
      have : (c : Rat) * (ev (core f) 0 * (b : Rat)) = (b : Rat) * b := by rw [z0]; grind
      rw [this]
      exact h1
    exact (Rat.mul_pos_iff_of_pos_left hc').mp h2
  · rw [← hs, lc, Rat.intCast_mul]
    have h1 := sq_pos (cast_ne hp)
    have hcp : (0 : Rat) < ((cont (strip (trim f)) : Int) : Rat) := cast_pos (by
      have hne : (cont (strip (trim f)) : Int) ≠ 0 := fun q => by
        rw [q, Int.zero_mul] at lc
        rw [hs] at lc
        exact hl lc
      omega)
    have := Rat.mul_pos hcp h1
    grind

/-! ### the simple part -/
structure Simple (l s : List Int) : Prop where
  lead : lead s ≠ 0
  two : 2 ≤ s.length
  zero : ev s 0 ≠ 0
  bz : Bz s (pd s)
  pow : ∃ (D : Int) (k : List Int) (n : Nat), D ≠ 0 ∧ ∀ x, ev l x * ev k x = (D : Rat) * ev s x ^ n
  root : ∀ x, ev s x = 0 → ev l x = 0
theorem simple_ok {l : List Int} (h : Yk.lead l ≠ 0) (h2 : 2 ≤ l.length) (h0 : ev l 0 ≠ 0) : Simple l (quot l (cfac l (deriv l))) := by
  obtain ⟨d1, d2⟩ := ev_deriv_lead h h2
  obtain ⟨C, hle⟩ := cfac_ok (other := deriv l) h (.inr d1) (by omega)
  obtain ⟨hq, m, k, hm, hk, e⟩ := quot_ok h C.lead hle C.fst
  obtain ⟨bz, D, kk, n, hD, ep⟩ := simple_part C hm (show k ≠ 0 by omega) e
  have hm' := cast_ne hm
  have hk' := cast_pos hk
  refine ⟨hq, ?_, fun z => ?_, bz, ⟨D, kk, n, hD, ep⟩, fun x z => ?_⟩
  · -- a constant s would make l a constant
    refine Decidable.byContradiction fun hs => ?_
    obtain ⟨c, ec⟩ : ∃ c : Int, quot l (cfac l (deriv l)) = [c] := by
      match quot l (cfac l (deriv l)), lead_ne_nil hq, hs with
      | [], h, _ => exact absurd rfl h
      | [c], _, _ => exact ⟨c, rfl⟩
      | a :: b :: t, _, h => simp at h
    have hc : c ≠ 0 := by
      rw [ec] at hq
      exact hq
    have := (div_short (g := l) (a := kk) (r := [D * c ^ n]) h (by simp only [List.length_singleton]; omega) (fun x => by
      rw [ep x, ec, ev_const, ev_const, Rat.intCast_mul, Rat.intCast_pow]) 0).1
    rw [ev_const] at this
    exact cast_ne (Int.mul_ne_zero hD (pow_ne_int hc n)) this
  · have := e 0
    rw [z] at this
    grind
  · have := e x
    rw [z] at this
    grind
theorem low_pow {η y : Rat} (h0 : 0 < η) (h : η ≤ y) : ∀ n : Nat, η ^ n ≤ y ^ n
  | 0 => by rw [Rat.pow_zero, Rat.pow_zero]; exact Rat.le_refl
  | n + 1 => by
    rw [Rat.pow_succ, Rat.pow_succ]
    exact mul_le (low_pow h0 h n) h (by grind) (Rat.pow_nonneg (by grind))
theorem ab_pow (y : Rat) : ∀ n : Nat, ab (y ^ n) = ab y ^ n
  | 0 => by rw [Rat.pow_zero, Rat.pow_zero]; rfl
  | n + 1 => by rw [Rat.pow_succ, Rat.pow_succ, ab_mul, ab_pow y n]
/-- where s stays away from 0, the payments' polynomial keeps its sign -/
theorem keeps_core {l s : List Int} (S : Simple l s) {R a b η : Rat} (hR : 0 ≤ R) (ha : 0 ≤ a) (hab : a ≤ b) (hb : b ≤ R) (hη : 0 < η) (h : ∀ x, a ≤ x → x ≤ b → η ≤ ab (ev s x)) : 0 < ev l a * ev l b := by
  obtain ⟨D, k, n, hD, e⟩ := S.pow
  obtain ⟨M, hM, hk⟩ := bdd hR k
  have hDp := ab_ne (cast_ne hD)
  obtain ⟨d, hd, hd'⟩ := small (L := M) (d := ab (D : Rat) * η ^ n) hM (Rat.mul_pos hDp (Rat.pow_pos hη))
  refine keeps_sign hR l ha hab hb hd fun x x0 x1 => ?_
  have h1 : ab (ev l x) * ab (ev k x) = ab (D : Rat) * ab (ev s x) ^ n := by
    rw [← ab_mul, e x, ab_mul, ab_pow]
  have h2 := low_pow hη (h x x0 x1) n
  have h3 := Rat.mul_le_mul_of_nonneg_left h2 (show (0 : Rat) ≤ ab (D : Rat) by grind)
  have h4 := Rat.mul_le_mul_of_nonneg_left (hk x (by grind) (by grind)) (ab_nn (ev l x))
  have h5 : M * d ≤ M * ab (ev l x) := by grind
  exact Rat.le_of_mul_le_mul_left h5 hM
theorem big_same {s : List Int} (h : lead s ≠ 0) {x y : Rat} (hx : (1 : Rat) + hgt s ≤ x) (hy : (1 : Rat) + hgt s ≤ y) : 0 < ev s x * ev s y := by
  rcases Int.lt_or_gt_of_ne h with z | z
  · have h1 := big_neg s _ (hgt_mem s) z x hx
    have h2 := big_neg s _ (hgt_mem s) z y hy
    have := Rat.mul_pos (show 0 < -(ev s x) by grind) (show 0 < -(ev s y) by grind)
    grind
  · have h1 := big_pos s _ (hgt_mem s) z x hx
    have h2 := big_pos s _ (hgt_mem s) z y hy
    exact Rat.mul_pos (by grind) (by grind)
theorem hgt_cast_nn (l : List Int) : (0 : Rat) ≤ (hgt l : Rat) := by
  have := Rat.intCast_le_intCast.mpr (hgt_nn l)
  rw [zero_cast] at this
  exact this
section
variable {l s : List Int} (S : Simple l s)
include S
/-- no count below d: the sign is the one at 0 -/
theorem sign_low (hl : lead l ≠ 0) {d : Rat} (hd : 0 < d) (h1 : var (chain s) 0 = var (chain s) ((1 : Rat) + hgt s) + 1) (hn : ¬ var (chain s) 0 = var (chain s) d + 1) : 0 < ev l d * ev l 0 := by
  obtain ⟨q, t, ec, sc, hq⟩ := chain_ok S.lead S.two S.bz
  rw [ec] at h1 hn
  have hB := hgt_cast_nn s
  have hR : (0 : Rat) ≤ max d ((1 : Rat) + hgt s) := by grind
  have T := sturm hR hq sc
  have k1 := T 0 ((1 : Rat) + hgt s) (Rat.le_refl) (by grind) (by grind)
  by_cases z : d ≤ (1 : Rat) + hgt s
  · have k2 := T 0 d (Rat.le_refl) (by grind) (by grind)
    have k3 := T d ((1 : Rat) + hgt s) (by grind) z (by grind)
    have l1 := k2.le
    have l2 := k3.le
    obtain ⟨η, hη, hx⟩ := k2.eq S.zero (by omega)
    have := keeps_core S hR (Rat.le_refl) (show (0 : Rat) ≤ d by grind) (by grind) hη hx
    grind
  · have k2 := (T ((1 : Rat) + hgt s) d (by grind) (by grind) (by grind)).no fun x x0 _ => big_same S.lead x0 (Rat.le_refl)
    omega
/-- the one count lies below d: the sign is the last coefficient's -/
theorem sign_high (hl : lead l ≠ 0) {d : Rat} (hd : 0 < d) (hs : ev s d ≠ 0) (h1 : var (chain s) 0 = var (chain s) ((1 : Rat) + hgt s) + 1) (hn : var (chain s) 0 = var (chain s) d + 1) : 0 < ev l d * (lead l : Rat) := by
  obtain ⟨q, t, ec, sc, hq⟩ := chain_ok S.lead S.two S.bz
  rw [ec] at h1 hn
  have hB := hgt_cast_nn s
  have hB2 := hgt_cast_nn l
  generalize hX : max d (max ((1 : Rat) + hgt s) ((1 : Rat) + hgt l)) = X
  have x1 : d ≤ X := by grind
  have x2 : (1 : Rat) + hgt s ≤ X := by grind
  have x3 : (1 : Rat) + hgt l ≤ X := by grind
  have hR : (0 : Rat) ≤ X := by grind
  have T := sturm hR hq sc
  have k1 := (T ((1 : Rat) + hgt s) X (by grind) x2 (Rat.le_refl)).no fun x x0 _ => big_same S.lead x0 (Rat.le_refl)
  obtain ⟨η, hη, hx⟩ := (T d X (by grind) x1 (Rat.le_refl)).eq hs (by omega)
  have h2 := keeps_core S hR (show (0 : Rat) ≤ d by grind) x1 (Rat.le_refl) hη hx
  have h3 : 0 < ev l X * (lead l : Rat) := by
    rcases Int.lt_or_gt_of_ne hl with z | z
    · have h4 := big_neg l _ (hgt_mem l) z X x3
      have h5 : (lead l : Rat) < 0 := by
        have := Rat.intCast_lt_intCast.mpr z
        rw [zero_cast] at this
        exact this
      have := Rat.mul_pos (show 0 < -(ev l X) by grind) (show 0 < -(lead l : Rat) by grind)
      grind
    · have h4 := big_pos l _ (hgt_mem l) z X x3
      exact Rat.mul_pos (by grind) (cast_pos z)
  exact sign_trans h2 h3
omit S in
theorem near_zero : ∀ (l : List Int) (H : Int), (∀ a ∈ l, -H ≤ a ∧ a ≤ H) → 0 ≤ H → ∀ x : Rat, 0 ≤ x → 2 * x ≤ 1 → ab (ev l x) ≤ 2 * H
  | [], H, _, h0, x, _, _ => by
    have := Rat.intCast_le_intCast.mpr h0
    rw [zero_cast] at this
    rw [ev_nil, ab_zero]
    grind
  | a :: l, H, hl, h0, x, x0, x1 => by
    have ih := near_zero l H (fun b hb => hl b (List.mem_cons_of_mem _ hb)) h0 x x0 x1
    obtain ⟨h1, h2⟩ := hl a List.mem_cons_self
    have h3 : ab (a : Rat) ≤ (H : Rat) := by
      have k1 := Rat.intCast_le_intCast.mpr h1
      have k2 := Rat.intCast_le_intCast.mpr h2
      rw [Rat.intCast_neg] at k1
      unfold ab
      split <;> grind
    have h4 := ab_add (a : Rat) (x * ev l x)
    rw [ab_mul, ab_pos x0] at h4
    have h5 := mul_le (show x ≤ 1/2 by grind) ih (ab_nn _) (by grind)
    rw [ev_cons]
    grind
/-- near 0 nothing is counted -/
theorem none_near {d : Rat} (hd : 0 ≤ d) (hs : d * (2 * (hgt s : Rat) + 2) ≤ 1) : ev s d ≠ 0 ∧ var (chain s) 0 = var (chain s) d := by
  obtain ⟨q, t, ec, sc, hq⟩ := chain_ok S.lead S.two S.bz
  rw [ec]
  have hB := hgt_cast_nn s
  have key : ∀ x, 0 ≤ x → x ≤ d → 0 < ev s x * ev s 0 := fun x x0 x1 => by
    match s, S.zero, hs, hB, S.two with
    | [], _, _, _, h => simp at h
    | a :: r, hz, hs, hB, _ =>
      have e0 : ev (a :: r) 0 = (a : Rat) := by
        rw [ev_cons]
        grind
      rw [e0] at hz ⊢
      have h2x : x * (2 * (hgt (a :: r) : Rat) + 2) ≤ 1 := by
        have := Rat.mul_le_mul_of_nonneg_right x1 (show (0 : Rat) ≤ 2 * (hgt (a :: r) : Rat) + 2 by grind)
        grind
      have h3x : 0 ≤ x * (hgt (a :: r) : Rat) := Rat.mul_nonneg x0 hB
      have k1 := near_zero r (hgt (a :: r)) (fun b hb => hgt_mem (a :: r) b (List.mem_cons_of_mem _ hb)) (hgt_nn _) x x0 (by grind)
      have k2 : ab (x * ev r x) ≤ x * (2 * (hgt (a :: r) : Rat)) := by
        rw [ab_mul, ab_pos x0]
        exact Rat.mul_le_mul_of_nonneg_left k1 x0
      have ha1 : (1 : Rat) ≤ ab (a : Rat) := by
        have hai : a ≠ 0 := fun z => by
          rw [z] at hz
          exact hz rfl
        rcases Int.lt_or_gt_of_ne hai with z | z
        · have h5 : a ≤ -1 := by omega
          have h6 := Rat.intCast_le_intCast.mpr h5
          rw [neg_one_cast] at h6
          have := neg_le_ab (a : Rat)
          grind
        · have h5 : (1 : Int) ≤ a := by omega
          have h6 := Rat.intCast_le_intCast.mpr h5
          rw [one_cast] at h6
          have := le_ab (a : Rat)
          grind
      by_cases xz : x = 0
      · rw [xz, e0]
        exact sq_pos hz
      · have h7 : ab ((a : Rat) - ev (a :: r) x) < 1 := by
          have : (a : Rat) - ev (a :: r) x = -(x * ev r x) := by
            rw [ev_cons]
            grind
          rw [this, ab_minus]
          have : 0 < x := by grind
          grind
        have := same_sign h7 ha1
        grind
  have h1 := key d hd (Rat.le_refl)
  refine ⟨fun z => by rw [z] at h1; grind, ?_⟩
  exact (sturm hd hq sc 0 d (Rat.le_refl) hd (Rat.le_refl)).no fun x x0 x1 => key x x0 x1
end
end Yk
end
section
/-! The program's counts in whole numbers, and what the law asks. -/
namespace Yk
/-- value_of: the value and the scale -/
def vof : List Int → Int → Int → Int × Int
  | [], _, _ => (0, 1)
  | a :: l, t, b => ((vof l t b).1 * t + a * (vof l t b).2, (vof l t b).2 * b)
def val (l : List Int) (t b : Int) : Int := (vof l t b).1
def sg (v : Int) : Int := if 0 < v then 1 else -1
def sgs (l : List Int) : List Int := (l.filter (fun v => decide (v ≠ 0))).map sg
def cntd : List Int → Nat
  | [] => 0
  | [_] => 0
  | a :: b :: l => (if a ≠ b then 1 else 0) + cntd (b :: l)
def chgs (c : List (List Int)) (t b : Int) : Nat := cntd (sgs (c.map (fun p => val p t b)))
def bnd (s : List Int) : Int := 1 + hgt s
def countAll (s : List Int) : Int := (chgs (chain s) 0 1 : Int) - chgs (chain s) (bnd s) 1
def countAbove (s : List Int) (t b : Int) : Int := ((chgs (chain s) 0 1 : Int) - chgs (chain s) t b) - (if val s t b = 0 then 1 else 0)
def rtop (t b : Int) : Int := t / (Nat.gcd t.natAbs b.natAbs : Int)
def rbot (t b : Int) : Int := b / (Nat.gcd t.natAbs b.natAbs : Int)
def atL (s : List Int) (low unit : Int) : Bool :=
  decide (low ≤ 0 - unit) || (decide (val s (rtop unit (unit + low)) (rbot unit (unit + low)) = 0) || decide (countAbove s (rtop unit (unit + low)) (rbot unit (unit + low)) = 1))
def sgn (v : Int) : Int := if 0 < v then 1 else if v < 0 then -1 else 0
theorem vof_ok {t b : Int} {x : Rat} (hx : x * b = t) : ∀ l : List Int, ((vof l t b).1 : Rat) * b = ev l x * (vof l t b).2 ∧ ((vof l t b).2 : Rat) = (b : Rat) ^ l.length
  | [] => ⟨by show (((0 : Int)) : Rat) * b = ev [] x * _; rw [zero_cast, ev_nil]; grind, by show (((1 : Int)) : Rat) = _; rw [one_cast]; exact (Rat.pow_zero ..).symm⟩
  | a :: l => by
    obtain ⟨h1, h2⟩ := vof_ok hx l
    refine ⟨?_, ?_⟩
    · show (((vof l t b).1 * t + a * (vof l t b).2 : Int) : Rat) * b = _ * (((vof l t b).2 * b : Int) : Rat)
      rw [Rat.intCast_add, Rat.intCast_mul, Rat.intCast_mul, Rat.intCast_mul, ev_cons, ← hx]
      grind
    · show (((vof l t b).2 * b : Int) : Rat) = _
      rw [Rat.intCast_mul, h2, List.length_cons, Rat.pow_succ]
theorem val_ok {t b : Int} {x : Rat} (hx : x * b = t) (hb : 0 < b) (l : List Int) : ∃ c : Rat, 0 < c ∧ (val l t b : Rat) = c * ev l x := by
  obtain ⟨h1, h2⟩ := vof_ok hx l
  have hb' := cast_pos hb
  refine ⟨((vof l t b).2 : Rat) * (b : Rat)⁻¹, Rat.mul_pos (by rw [h2]; exact Rat.pow_pos hb') (Rat.inv_pos.mpr hb'), ?_⟩
  have h3 := Rat.mul_inv_cancel (b : Rat) (by grind)
  show ((vof l t b).1 : Rat) = _
  have h4 : ((vof l t b).1 : Rat) * b * (b : Rat)⁻¹ = ev l x * (vof l t b).2 * (b : Rat)⁻¹ := by rw [h1]
  have h5 : ((vof l t b).1 : Rat) * b * (b : Rat)⁻¹ = ((vof l t b).1 : Rat) * (b * (b : Rat)⁻¹) := by grind
  rw [h5, h3] at h4
  grind
theorem cast_sign (v : Int) : ((v : Rat) = 0 ↔ v = 0) ∧ (0 < (v : Rat) ↔ 0 < v) ∧ ((v : Rat) < 0 ↔ v < 0) := by
  refine ⟨⟨fun h => Rat.intCast_inj.mp (h.trans zero_cast.symm), fun h => by rw [h]; rfl⟩, ⟨fun h => ?_, cast_pos⟩, ⟨fun h => ?_, fun h => ?_⟩⟩
  · rw [← zero_cast] at h
    exact Rat.intCast_lt_intCast.mp h
  · rw [← zero_cast] at h
    exact Rat.intCast_lt_intCast.mp h
  · have := Rat.intCast_lt_intCast.mpr h
    rw [zero_cast] at this
    exact this
/-- of one sign -/
def Al (v : Int) (y : Rat) : Prop := ∃ c : Rat, 0 < c ∧ (v : Rat) = c * y
theorem Al.zero {v : Int} {y : Rat} (h : Al v y) : v = 0 ↔ y = 0 := by
  obtain ⟨c, hc, e⟩ := h
  rw [← (cast_sign v).1, e]
  constructor
  · intro z
    grind
  · intro z
    rw [z]
    grind
theorem Al.pos {v : Int} {y : Rat} (h : Al v y) : 0 < v ↔ 0 < y := by
  obtain ⟨c, hc, e⟩ := h
  rw [← (cast_sign v).2.1, e]
  exact Rat.mul_pos_iff_of_pos_left hc
theorem Al.neg {v : Int} {y : Rat} (h : Al v y) : v < 0 ↔ y < 0 := by
  have h1 := h.zero
  have h2 := h.pos
  constructor
  · intro z
    have a1 : ¬ y = 0 := fun q => by have := h1.mpr q; omega
    have a2 : ¬ 0 < y := fun q => by have := h2.mpr q; omega
    grind
  · intro z
    have a1 : ¬ v = 0 := fun q => by have := h1.mp q; grind
    have a2 : ¬ 0 < v := fun q => by have := h2.mp q; grind
    omega
theorem sgs_cons (v : Int) (l : List Int) : sgs (v :: l) = if v = 0 then sgs l else sg v :: sgs l := by
  unfold sgs
  by_cases h : v = 0
  · rw [if_pos h, List.filter_cons_of_neg (by simp [h])]
  · rw [if_neg h, List.filter_cons_of_pos (by simp [h])]
    rfl
theorem cntd_sgs : ∀ (c : List (List Int)) (f : List Int → Int) (g : List Int → Rat), (∀ p, Al (f p) (g p)) → ∀ (v : Int) (y : Rat), v ≠ 0 → Al v y → cntd (sg v :: sgs (c.map f)) = chg y (c.map g)
  | [], f, g, h, v, y, hv, ha => rfl
  | p :: c, f, g, h, v, y, hv, ha => by
    have hp := h p
    rw [List.map_cons, List.map_cons, sgs_cons, chg_cons]
    by_cases z : f p = 0
    · rw [if_pos z, if_pos (hp.zero.mp z)]
      exact cntd_sgs c f g h v y hv ha
    · have z2 : ¬ g p = 0 := fun q => z (hp.zero.mpr q)
      rw [if_neg z, if_neg z2]
      show (if sg v ≠ sg (f p) then 1 else 0) + cntd (sg (f p) :: sgs (c.map f)) = _
      rw [cntd_sgs c f g h (f p) (g p) z hp]
      congr 1
      have hy : ¬ y = 0 := fun q => hv (ha.zero.mpr q)
      have key : sg v ≠ sg (f p) ↔ y * g p < 0 := by
        unfold sg
        by_cases a : 0 < v <;> by_cases b : 0 < f p
        · have := Rat.mul_pos (ha.pos.mp a) (hp.pos.mp b)
          rw [if_pos a, if_pos b]
          exact ⟨fun q => absurd rfl q, fun q => by grind⟩
        · have b2 : g p < 0 := hp.neg.mp (by omega)
          have := Rat.mul_pos (ha.pos.mp a) (show 0 < -(g p) by grind)
          rw [if_pos a, if_neg b]
          exact ⟨fun _ => by grind, fun _ => by decide⟩
        · have a2 : y < 0 := ha.neg.mp (by omega)
          have := Rat.mul_pos (show 0 < -y by grind) (hp.pos.mp b)
          rw [if_neg a, if_pos b]
          exact ⟨fun _ => by grind, fun _ => by decide⟩
        · have a2 : y < 0 := ha.neg.mp (by omega)
          have b2 : g p < 0 := hp.neg.mp (by omega)
          have := Rat.mul_pos (show 0 < -y by grind) (show 0 < -(g p) by grind)
          rw [if_neg a, if_neg b]
          exact ⟨fun q => absurd rfl q, fun q => by grind⟩
      by_cases k : sg v ≠ sg (f p)
      · rw [if_pos k, if_pos (key.mp k)]
      · rw [if_neg k, if_neg (fun q => k (key.mpr q))]
theorem cntd_var : ∀ (c : List (List Int)) (f : List Int → Int) (g : List Int → Rat), (∀ p, Al (f p) (g p)) → cntd (sgs (c.map f)) = chg 0 (c.map g)
  | [], f, g, h => rfl
  | p :: c, f, g, h => by
    have hp := h p
    rw [List.map_cons, List.map_cons, sgs_cons, chg_cons]
    by_cases z : f p = 0
    · rw [if_pos z, if_pos (hp.zero.mp z)]
      exact cntd_var c f g h
    · have z2 : ¬ g p = 0 := fun q => z (hp.zero.mpr q)
      rw [if_neg z, if_neg z2, if_neg (by grind), Nat.zero_add]
      exact cntd_sgs c f g h (f p) (g p) z hp
theorem chgs_var (c : List (List Int)) {t b : Int} {x : Rat} (hx : x * b = t) (hb : 0 < b) : chgs c t b = var c x := cntd_var c _ _ fun p => val_ok hx hb p
theorem bnd_cast (s : List Int) : ((bnd s : Int) : Rat) = (1 : Rat) + hgt s := by
  unfold bnd
  rw [Rat.intCast_add, one_cast]
theorem countAll_var (s : List Int) : countAll s = 1 ↔ var (chain s) 0 = var (chain s) ((1 : Rat) + hgt s) + 1 := by
  unfold countAll
  rw [chgs_var (chain s) (t := 0) (b := 1) (x := 0) (by rw [one_cast, zero_cast]; grind) (by decide), chgs_var (chain s) (t := bnd s) (b := 1) (x := (1 : Rat) + hgt s) (by rw [one_cast, bnd_cast]; grind) (by decide)]
  omega
theorem ratio_ok {t b : Int} (ht : 0 < t) (hb : 0 < b) : 0 < rbot t b ∧ 0 < rtop t b ∧ ∀ x : Rat, x * b = t → x * (rbot t b : Rat) = (rtop t b : Rat) := by
  have hg : 0 < (Nat.gcd t.natAbs b.natAbs : Int) := by
    have := Nat.gcd_pos_of_pos_left b.natAbs (show 0 < t.natAbs by omega)
    omega
  have d1 : (Nat.gcd t.natAbs b.natAbs : Int) ∣ t := Int.dvd_natAbs.mp (Int.natCast_dvd_natCast.mpr (Nat.gcd_dvd_left _ _))
  have d2 : (Nat.gcd t.natAbs b.natAbs : Int) ∣ b := Int.dvd_natAbs.mp (Int.natCast_dvd_natCast.mpr (Nat.gcd_dvd_right _ _))
  have e1 : (Nat.gcd t.natAbs b.natAbs : Int) * rtop t b = t := Int.mul_ediv_cancel' d1
  have e2 : (Nat.gcd t.natAbs b.natAbs : Int) * rbot t b = b := Int.mul_ediv_cancel' d2
  refine ⟨Int.pos_of_mul_pos_right (by rw [e2]; exact hb) hg, Int.pos_of_mul_pos_right (by rw [e1]; exact ht) hg, fun x hx => ?_⟩
  have hg' := cast_pos hg
  generalize (Nat.gcd t.natAbs b.natAbs : Int) = g at *
  have h1 : (g : Rat) * (x * (rbot t b : Rat)) = (g : Rat) * (rtop t b : Rat) := by
    have a1 : (g : Rat) * (rtop t b : Rat) = (t : Rat) := by rw [← Rat.intCast_mul, e1]
    have a2 : (g : Rat) * (rbot t b : Rat) = (b : Rat) := by rw [← Rat.intCast_mul, e2]
    rw [a1, ← hx, ← a2]
    grind
  have h2 := Rat.mul_inv_cancel (g : Rat) (by grind)
  have h3 : (g : Rat)⁻¹ * ((g : Rat) * (x * (rbot t b : Rat))) = (g : Rat)⁻¹ * ((g : Rat) * (rtop t b : Rat)) := by rw [h1]
  have a3 : ∀ y : Rat, (g : Rat)⁻¹ * ((g : Rat) * y) = y := fun y => by
    have : (g : Rat)⁻¹ * ((g : Rat) * y) = ((g : Rat) * (g : Rat)⁻¹) * y := by grind
    rw [this, h2]
    grind
  rw [a3, a3] at h3
  exact h3
/-- the place that a floor stands for -/
def plc (unit low : Int) : Rat := (unit : Rat) * ((unit + low : Int) : Rat)⁻¹
theorem plc_ok {unit low : Int} (hu : 0 < unit) (hl : 0 < unit + low) : 0 < plc unit low ∧ plc unit low * ((unit + low : Int) : Rat) = (unit : Rat) := by
  have h1 := cast_pos hl
  have h2 := Rat.mul_inv_cancel ((unit + low : Int) : Rat) (by grind)
  refine ⟨Rat.mul_pos (cast_pos hu) (Rat.inv_pos.mpr h1), ?_⟩
  unfold plc
  have : (unit : Rat) * ((unit + low : Int) : Rat)⁻¹ * ((unit + low : Int) : Rat) = (unit : Rat) * (((unit + low : Int) : Rat) * ((unit + low : Int) : Rat)⁻¹) := by grind
  rw [this, h2]
  grind
theorem atL_ok {s : List Int} {unit low : Int} (hu : 0 < unit) (hl : 0 < unit + low) :
    (atL s low unit = true ↔ (ev s (plc unit low) = 0 ∨ (ev s (plc unit low) ≠ 0 ∧ var (chain s) 0 = var (chain s) (plc unit low) + 1))) := by
  obtain ⟨h0, h1⟩ := plc_ok hu hl
  obtain ⟨hb, _, hx⟩ := ratio_ok hu hl
  have hx := hx _ h1
  have hv : Al (val s (rtop unit (unit + low)) (rbot unit (unit + low))) (ev s (plc unit low)) := val_ok hx hb s
  unfold atL countAbove
  rw [chgs_var (chain s) (t := 0) (b := 1) (x := 0) (by rw [one_cast, zero_cast]; grind) (by decide), chgs_var (chain s) hx hb, decide_eq_false (show ¬ low ≤ 0 - unit by omega), Bool.false_or, Bool.or_eq_true, decide_eq_true_eq, decide_eq_true_eq]
  have h9 := hv.zero
  by_cases z : val s (rtop unit (unit + low)) (rbot unit (unit + low)) = 0
  · exact ⟨fun _ => .inl (h9.mp z), fun _ => .inl z⟩
  · have z2 : ¬ ev s (plc unit low) = 0 := fun q => z (h9.mpr q)
    rw [if_neg z]
    constructor
    · rintro (h | h)
      · exact absurd h z
      · exact .inr ⟨z2, by omega⟩
    · rintro (h | ⟨_, h⟩)
      · exact absurd h z2
      · exact .inr (by omega)
/-- far up nothing is counted: the search for an upper end stops -/
theorem atL_far {l s : List Int} (S : Simple l s) {unit high : Int} (hu : 0 < unit) (hh : unit * (2 * hgt s + 1) ≤ high) : atL s high unit = false := by
  have hH := hgt_nn s
  have hp : 0 ≤ unit * (2 * hgt s + 1) := Int.mul_nonneg (by omega) (by omega)
  have hl : 0 < unit + high := by omega
  obtain ⟨h0, h1⟩ := plc_ok hu hl
  have h2 : plc unit high * (2 * (hgt s : Rat) + 2) ≤ 1 := by
    have k1 : ((unit * (2 * hgt s + 1) + unit : Int) : Rat) ≤ ((unit + high : Int) : Rat) := Rat.intCast_le_intCast.mpr (by omega)
    have k2 : ((unit * (2 * hgt s + 1) + unit : Int) : Rat) = (unit : Rat) * (2 * (hgt s : Rat) + 2) := by
      have : unit * (2 * hgt s + 1) + unit = unit * (2 * hgt s + 2) := by
        have h8 := Int.mul_add unit (2 * hgt s + 1) 1
        rw [Int.mul_one] at h8
        have h9 : 2 * hgt s + 1 + 1 = 2 * hgt s + 2 := by omega
        rw [h9] at h8
        exact h8.symm
      rw [this, Rat.intCast_mul, Rat.intCast_add, Rat.intCast_mul]
      rfl
    rw [k2] at k1
    have k3 := Rat.mul_le_mul_of_nonneg_left k1 (show (0 : Rat) ≤ plc unit high by grind)
    rw [h1] at k3
    have k4 : (unit : Rat) * (plc unit high * (2 * (hgt s : Rat) + 2)) ≤ (unit : Rat) * 1 := by grind
    exact Rat.le_of_mul_le_mul_left k4 (cast_pos hu)
  obtain ⟨z1, z2⟩ := none_near S (show (0 : Rat) ≤ plc unit high by grind) h2
  cases e : atL s high unit with
  | false => rfl
  | true =>
    rcases (atL_ok hu hl).mp e with h | ⟨_, h⟩
    · exact absurd h z1
    · omega

/-! ### what the law asks -/
theorem chain_const (c : Int) (h : c ≠ 0) : chain [c] = [[c]] := by
  unfold chain
  show (chl 1 [c] (deriv [c])).filter _ = _
  rw [deriv_short (by simp)]
  show ([[c], []] : List (List Int)).filter _ = _
  simp
theorem count_const (c : Int) (h : c ≠ 0) : countAll [c] = 0 := by
  unfold countAll
  rw [chain_const c h]
  have : ∀ t b, chgs [[c]] t b = 0 := fun t b => by
    unfold chgs
    show cntd (sgs [val [c] t b]) = 0
    rw [sgs_cons]
    split
    · rfl
    · rfl
  rw [this, this]
  rfl
/-- one count: the simple part is at hand -/
theorem simple_of {f : List Int} (h : ∃ a ∈ f, a ≠ 0) (hc : countAll (simp1 f) = 1) : Simple (core f) (simp1 f) := by
  have C := core_ok h
  unfold simp1 at hc ⊢
  by_cases q : (core f).length < 2
  · exfalso
    rw [if_pos q] at hc
    match e : core f, q, C.lead with
    | [], _, z => exact z rfl
    | [c], _, z =>
      have e' : prim (strip (trim f)) = [c] := e
      rw [e', count_const c z] at hc
      cases hc
    | a :: b :: l, q, _ => exact absurd q (by simp only [List.length_cons]; omega)
  · rw [if_neg q]
    exact simple_ok C.lead (by omega) C.zero
/-- the law's two signs -/
theorem law_signs {f : List Int} (h : ∃ a ∈ f, a ≠ 0) (hc : countAll (simp1 f) = 1) {unit r : Int} (hu : 0 < unit) (hr : 0 - unit ≤ r) (hat : atL (simp1 f) r unit = true) (hna : atL (simp1 f) (r + 1) unit = false) :
    (∀ a m, strip f = a :: m → sgn (val f unit (unit + r + 1)) = sg a) ∧ (r ≠ 0 - unit → sgn (val f unit (unit + r)) = sg (lead (trim f)) ∨ sgn (val f unit (unit + r)) = 0) := by
  have C := core_ok h
  have S := simple_of h hc
  have h1 := (countAll_var _).mp hc
  refine ⟨fun a m ea => ?_, fun hne => ?_⟩
  · have hl : 0 < unit + (r + 1) := by omega
    obtain ⟨p0, p1⟩ := plc_ok hu hl
    have hs : ¬ var (chain (simp1 f)) 0 = var (chain (simp1 f)) (plc unit (r + 1)) + 1 := fun z => by
      have : atL (simp1 f) (r + 1) unit = true := (atL_ok hu hl).mpr (by
        by_cases y : ev (simp1 f) (plc unit (r + 1)) = 0
        · exact .inl y
        · exact .inr ⟨y, z⟩)
      rw [hna] at this
      cases this
    have h2 := sign_low S C.lead p0 h1 hs
    have hv : Al (val f unit (unit + (r + 1))) (ev f (plc unit (r + 1))) := val_ok p1 hl f
    obtain ⟨c, hcp, ec⟩ := C.sgn _ p0
    obtain ⟨a', m', e', ha'⟩ := C.fst
    rw [ea] at e'
    obtain ⟨rfl, rfl⟩ := List.cons.inj e'
    have h3 : 0 < ev (core f) (plc unit (r + 1)) * (a : Rat) := sign_trans h2 ha'
    have h4 : 0 < ev f (plc unit (r + 1)) * (a : Rat) := by
      rw [ec]
      have := Rat.mul_pos hcp h3
      grind
    have e1 : unit + r + 1 = unit + (r + 1) := by omega
    rw [e1]
    unfold sgn sg
    by_cases z : 0 < a
    · have h5 := (Rat.mul_pos_iff_of_pos_right (cast_pos z)).mp h4
      rw [if_pos (hv.pos.mpr h5), if_pos z]
    · have hz : a ≠ 0 := fun q => by
        rw [q, zero_cast] at h4
        grind
      have h6 : (0 : Rat) < -(a : Rat) := by
        have := ((cast_sign a).2.2).mpr (show a < 0 by omega)
        grind
      have h5 : 0 < -(ev f (plc unit (r + 1))) := (Rat.mul_pos_iff_of_pos_right h6).mp (by grind)
      have h7 := hv.neg.mpr (by grind)
      rw [if_neg (by omega), if_pos h7, if_neg z]
  · have hl : 0 < unit + r := by omega
    obtain ⟨p0, p1⟩ := plc_ok hu hl
    have hv : Al (val f unit (unit + r)) (ev f (plc unit r)) := val_ok p1 hl f
    obtain ⟨c, hcp, ec⟩ := C.sgn _ p0
    by_cases y : ev (simp1 f) (plc unit r) = 0
    · right
      have h2 := S.root _ y
      rw [h2] at ec
      have h3 := hv.zero.mpr (by rw [ec]; grind)
      rw [h3]
      rfl
    · left
      have hs : var (chain (simp1 f)) 0 = var (chain (simp1 f)) (plc unit r) + 1 := by
        rcases (atL_ok hu hl).mp hat with z | ⟨_, z⟩
        · exact absurd z y
        · exact z
      have h2 := sign_high S C.lead p0 y h1 hs
      have hlst := C.lst
      have h3 : 0 < ev (core f) (plc unit r) * (lead (trim f) : Rat) := sign_trans h2 hlst
      have h4 : 0 < ev f (plc unit r) * (lead (trim f) : Rat) := by
        rw [ec]
        have := Rat.mul_pos hcp h3
        grind
      generalize lead (trim f) = a at *
      unfold sgn sg
      by_cases z : 0 < a
      · have h5 := (Rat.mul_pos_iff_of_pos_right (cast_pos z)).mp h4
        rw [if_pos (hv.pos.mpr h5), if_pos z]
      · have hz : a ≠ 0 := fun q => by
          rw [q, zero_cast] at h4
          grind
        have h6 : (0 : Rat) < -(a : Rat) := by
          have := ((cast_sign a).2.2).mpr (show a < 0 by omega)
          grind
        have h5 : 0 < -(ev f (plc unit r)) := (Rat.mul_pos_iff_of_pos_right h6).mp (by grind)
        have h7 := hv.neg.mpr (by grind)
        rw [if_neg (by omega), if_pos h7, if_neg z]
end Yk
end
section
/-! How great the numbers are. -/
namespace Yk
def Bd (B : Nat) (l : List Int) : Prop := ∀ a ∈ l, a.natAbs < 2 ^ B
theorem pow_le {a b : Nat} (h : a ≤ b) : 2 ^ a ≤ 2 ^ b := Nat.pow_le_pow_right (by decide) h
theorem Bd.mono {A B : Nat} {l : List Int} (h : Bd A l) (e : A ≤ B) : Bd B l := fun a ha => Nat.lt_of_lt_of_le (h a ha) (pow_le e)
theorem bd_nil (B : Nat) : Bd B [] := fun a h => by cases h
theorem Bd.trim {B : Nat} {l : List Int} (h : Bd B l) : Bd B (trim l) := fun a ha => h a (mem_trim ha)
theorem Bd.dropLast {B : Nat} {l : List Int} (h : Bd B l) : Bd B l.dropLast := fun a ha => h a ((List.dropLast_sublist l).mem ha)
theorem mem_strip : ∀ {l : List Int} {a : Int}, a ∈ strip l → a ∈ l
  | [], a, h => by cases h
  | b :: l, a, h => by
    unfold strip at h
    by_cases z : b = 0
    · rw [if_pos z] at h
      exact List.mem_cons_of_mem _ (mem_strip h)
    · rw [if_neg z] at h
      exact h
theorem strip_len : ∀ l : List Int, (strip l).length ≤ l.length
  | [] => Nat.le_refl _
  | b :: l => by
    unfold strip
    by_cases z : b = 0
    · rw [if_pos z]
      have := strip_len l
      rw [List.length_cons]
      omega
    · rw [if_neg z]
      exact Nat.le_refl _
theorem Bd.strip {B : Nat} {l : List Int} (h : Bd B l) : Bd B (strip l) := fun a ha => h a (mem_strip ha)
theorem ediv_abs (a : Int) (c : Nat) (h : (c : Int) ∣ a) : (a / (c : Int)).natAbs ≤ a.natAbs := by
  obtain ⟨k, rfl⟩ := h
  by_cases z : c = 0
  · subst z
    simp
  · rw [Int.mul_ediv_cancel_left _ (by omega), Int.natAbs_mul]
    exact Nat.le_mul_of_pos_left _ (by omega)
theorem Bd.prim {B : Nat} {l : List Int} (h : Bd B l) : Bd B (prim l) := fun a ha => by
  obtain ⟨b, hb, rfl⟩ := List.mem_map.mp ha
  have hm := mem_trim hb
  exact Nat.lt_of_le_of_lt (ediv_abs b _ (cont_dvd hm)) (h b hm)
theorem mul_lt {a b : Int} {A B : Nat} (ha : a.natAbs < 2 ^ A) (hb : b.natAbs < 2 ^ B) : (a * b).natAbs < 2 ^ (A + B) := by
  rw [Int.natAbs_mul, Nat.pow_add]
  exact Nat.mul_lt_mul'' ha hb
theorem sub_lt {a b : Int} {A : Nat} (ha : a.natAbs < 2 ^ A) (hb : b.natAbs < 2 ^ A) : (a - b).natAbs < 2 ^ (A + 1) := by
  rw [Nat.pow_succ]
  omega
theorem add_lt {a b : Int} {A : Nat} (ha : a.natAbs < 2 ^ A) (hb : b.natAbs < 2 ^ A) : (a + b).natAbs < 2 ^ (A + 1) := by
  rw [Nat.pow_succ]
  omega
theorem Bd.mul {A C : Nat} {l : List Int} {c : Int} (h : Bd A l) (hc : c.natAbs < 2 ^ C) : Bd (A + C) (l.map (fun a => a * c)) := fun a ha => by
  obtain ⟨b, hb, rfl⟩ := List.mem_map.mp ha
  exact mul_lt (h b hb) hc
theorem bd_subF {A : Nat} {f : Int} : ∀ {o l : List Int}, Bd A l → (∀ b ∈ o, (f * b).natAbs < 2 ^ A) → Bd (A + 1) (subF f o l)
  | [], l, h, _ => h.mono (Nat.le_succ _)
  | b :: o, [], h, _ => bd_nil _
  | b :: o, a :: l, h, hf => fun x hx => by
    rcases List.mem_cons.mp (show x ∈ (a - f * b) :: subF f o l from hx) with e | e
    · subst e
      exact sub_lt (h a List.mem_cons_self) (hf b List.mem_cons_self)
    · exact bd_subF (o := o) (l := l) (fun y hy => h y (List.mem_cons_of_mem _ hy)) (fun y hy => hf y (List.mem_cons_of_mem _ hy)) x e
theorem bd_subAt {A : Nat} {f : Int} {o : List Int} : ∀ {n : Nat} {l : List Int}, Bd A l → (∀ b ∈ o, (f * b).natAbs < 2 ^ A) → Bd (A + 1) (subAt n f o l)
  | 0, l, h, hf => bd_subF h hf
  | n + 1, [], h, _ => bd_nil _
  | n + 1, a :: l, h, hf => fun x hx => by
    rcases List.mem_cons.mp (show x ∈ a :: subAt n f o l from hx) with e | e
    · subst e
      exact Nat.lt_of_lt_of_le (h x List.mem_cons_self) (pow_le (Nat.le_succ _))
    · exact bd_subAt (fun y hy => h y (List.mem_cons_of_mem _ hy)) hf x e
theorem bd_lead {A : Nat} {l : List Int} (h : Bd A l) : (lead l).natAbs < 2 ^ A := by
  by_cases z : lead l = 0
  · rw [z]
    exact Nat.pow_pos (by decide)
  · exact h _ (lead_mem z)
theorem bd_getD {A : Nat} {l : List Int} (h : Bd A l) (i : Nat) : (l.getD i 0).natAbs < 2 ^ A := by
  rw [List.getD_eq_getElem?_getD]
  cases e : l[i]? with
  | none => exact Nat.pow_pos (by decide)
  | some b => exact h b (List.mem_of_getElem? e)
theorem bd_rstep {A B : Nat} {other rest : List Int} (ho : Bd B other) (h : Bd A rest) : Bd (A + B + 1) (rstep other rest) := by
  have hl := bd_lead ho
  have hr := bd_lead h
  refine (bd_subAt (A := A + B) (h.mul (c := ((lead other).natAbs : Int)) (C := B) (by rw [Int.natAbs_natCast]; exact hl)) fun b hb => ?_).dropLast.trim
  refine mul_lt ?_ (ho b hb)
  split
  · exact hr
  · omega
theorem bd_rloop {B : Nat} {other : List Int} (ho : Bd B other) (h0 : other ≠ []) : ∀ (n : Nat) (A : Nat) (rest : List Int), rest.length ≤ n → Bd A rest → Bd (A + (rest.length + 1 - other.length) * (B + 1)) (rloop n other rest)
  | 0, A, rest, _, h => h.trim.mono (Nat.le_add_right _ _)
  | n + 1, A, rest, hl, h => by
    unfold rloop
    by_cases c : other.length ≤ rest.length
    · rw [if_pos c]
      have hp : 0 < other.length := List.length_pos_iff.mpr h0
      have hs := rstep_len (other := other) (rest := rest) (by omega)
      refine (bd_rloop ho h0 n _ _ (by omega) (bd_rstep ho h)).mono ?_
      have : (rest.length + 1 - other.length) = (rest.length - other.length) + 1 := by omega
      rw [this, Nat.succ_mul]
      have : ((rstep other rest).length + 1 - other.length) * (B + 1) ≤ (rest.length - other.length) * (B + 1) := Nat.mul_le_mul_right _ (by omega)
      omega
    · rw [if_neg c]
      exact h.trim.mono (Nat.le_add_right _ _)
theorem bd_remd {B : Nat} {one other : List Int} (h : Bd B one) (ho : Bd B other) (h0 : other ≠ []) : Bd (B + (one.length + 1 - other.length) * (B + 1)) (remd one other) := bd_rloop ho h0 _ _ _ (Nat.le_refl _) h
theorem bd_dmul {B C : Nat} : ∀ {k : Nat} {l : List Int}, Bd B l → k + l.length ≤ 2 ^ C → Bd (B + C) (dmul k l)
  | k, [], h, _ => bd_nil _
  | k, a :: l, h, hk => fun x hx => by
    rw [List.length_cons] at hk
    rcases List.mem_cons.mp (show x ∈ ((k : Int) * a) :: dmul (k + 1) l from hx) with e | e
    · subst e
      rw [Nat.add_comm B C]
      exact mul_lt (by omega) (h a List.mem_cons_self)
    · exact bd_dmul (k := k + 1) (fun y hy => h y (List.mem_cons_of_mem _ hy)) (by omega) x e
theorem Bd.drop {B : Nat} {l : List Int} (h : Bd B l) (n : Nat) : Bd B (l.drop n) := fun a ha => h a (List.mem_of_mem_drop ha)
theorem bd_deriv {B : Nat} {l : List Int} (h : Bd B l) (hl : l.length ≤ 8) : Bd (B + 3) (deriv l) := ((bd_dmul (C := 3) h (by omega)).drop 1).trim
theorem three_pow : ∀ d : Nat, d + 2 ≤ 3 ^ d ∨ d = 0
  | 0 => .inr rfl
  | d + 1 => by
    rcases three_pow d with h | h
    · refine .inl ?_
      rw [Nat.pow_succ]
      omega
    · subst h
      exact .inl (by decide)
/-- one step's bits against the potential -/
theorem pot_step {β n m W : Nat} (hm : m < n) (hW : (β + 1) * 3 ^ n ≤ W) : (β + (n + 1 - m) * (β + 1) + 1) * 3 ^ m ≤ W := by
  refine Nat.le_trans ?_ hW
  have e : n = (n - m) + m := by omega
  have h3 : n - m + 2 ≤ 3 ^ (n - m) := (three_pow (n - m)).resolve_right (by omega)
  have e2 : β + (n + 1 - m) * (β + 1) + 1 = (β + 1) * (n - m + 2) := by
    have : n + 1 - m = n - m + 1 := by omega
    rw [this]
    grind
  rw [e2]
  have : 3 ^ n = 3 ^ (n - m) * 3 ^ m := by rw [← Nat.pow_add, ← e]
  rw [this, ← Nat.mul_assoc]
  exact Nat.mul_le_mul_right _ (Nat.mul_le_mul_left _ h3)
theorem remd_len {one other : List Int} (ho : lead other ≠ 0) : (remd one other).length < other.length ∧ Trm (remd one other) := by
  have := remd_ev (one := one) ho
  grind
theorem prim_len' {l : List Int} (h : Trm l) : (prim l).length = l.length := by rw [prim_len, h.eq]
theorem prim_lead {l : List Int} (h : Trm l) (h0 : l ≠ []) : lead (prim l) ≠ 0 := by
  rcases prim_trm l with z | z
  · rw [prim_nil, h.eq] at z
    exact absurd z h0
  · exact z
theorem cloop_bd {W : Nat} : ∀ (n : Nat) (one other : List Int) (b β : Nat), Bd b one → (b + 1) * 3 ^ (one.length + 1) ≤ W → Bd β one → Bd β other → (β + 1) * 3 ^ one.length ≤ W → Trm other → other.length < one.length → other.length ≤ n →
    ∃ γ, Bd γ (cloop n one other) ∧ (γ + 1) * 9 ≤ W
  | 0, one, other, b, β, h1, hw1, _, _, _, _, hl, _ => by
    refine ⟨b, h1, Nat.le_trans (Nat.mul_le_mul_left _ ?_) hw1⟩
    exact Nat.pow_le_pow_right (n := 3) (by decide) (show 2 ≤ one.length + 1 by omega)
  | n + 1, one, other, b, β, h1, hw1, h2, h3, hw2, ht, hl, hn => by
    unfold cloop
    by_cases c : other = []
    · rw [if_pos c]
      refine ⟨b, h1, Nat.le_trans (Nat.mul_le_mul_left _ ?_) hw1⟩
      exact Nat.pow_le_pow_right (n := 3) (by decide) (show 2 ≤ one.length + 1 by omega)
    · rw [if_neg c]
      have hpl := prim_len' ht
      have hld := prim_lead ht c
      have hne := lead_ne_nil hld
      obtain ⟨hr1, hr2⟩ := remd_len (one := one) hld
      have hB := bd_remd h2 h3.prim hne
      rw [hpl] at hB hr1
      refine cloop_bd n _ _ β _ h3.prim ?_ (h3.prim.mono (Nat.le_add_right _ _)) hB ?_ hr2 (by rw [hpl]; exact hr1) (by omega)
      · rw [hpl]
        exact Nat.le_trans (Nat.mul_le_mul_left _ (Nat.pow_le_pow_right (by decide) (by omega))) hw2
      · rw [hpl]
        exact pot_step hl hw2
end Yk
end
section
namespace Yk
theorem bd_cfac {W β : Nat} {one other : List Int} (h1 : Bd β one) (h2 : Bd β other) (hW : (β + 1) * 3 ^ one.length ≤ W) (ht1 : Trm one) (ht : Trm other) (h0 : other ≠ []) (hl : other.length < one.length) : ∃ γ, Bd γ (cfac one other) ∧ (γ + 1) * 9 ≤ W := by
  unfold cfac
  obtain ⟨n, hn⟩ : ∃ n, other.length = n + 1 := ⟨other.length - 1, by have := List.length_pos_iff.mpr h0; omega⟩
  rw [hn]
  unfold cloop
  rw [if_neg h0]
  have hp1 := prim_len' ht1
  have hpl := prim_len' ht
  have hld := prim_lead ht h0
  have hne := lead_ne_nil hld
  obtain ⟨hr1, hr2⟩ := remd_len (one := prim one) hld
  have hB := bd_remd h1.prim h2.prim hne
  rw [hpl] at hB hr1
  rw [hp1] at hB
  refine cloop_bd n _ _ β _ h2.prim ?_ (h2.prim.mono (Nat.le_add_right _ _)) hB ?_ hr2 (by rw [hpl]; exact hr1) (by omega)
  · rw [hpl]
    exact Nat.le_trans (Nat.mul_le_mul_left _ (Nat.pow_le_pow_right (by decide) (by omega))) hW
  · rw [hpl]
    exact pot_step hl hW
theorem fdiv_abs {x c : Int} (hc : c ≠ 0) (h : x.fmod c = 0) : (x.fdiv c).natAbs ≤ x.natAbs := by
  have e := Int.mul_fdiv_add_fmod x c
  rw [h, Int.add_zero] at e
  have : x.natAbs = c.natAbs * (x.fdiv c).natAbs := by rw [← Int.natAbs_mul, e]
  rw [this]
  exact Nat.le_mul_of_pos_left _ (by omega)
theorem bd_set {A : Nat} {l : List Int} {q : Int} (h : Bd A l) (hq : q.natAbs < 2 ^ A) (i : Nat) : Bd A (l.set i q) := fun a ha => by
  rcases List.mem_or_eq_of_mem_set ha with z | z
  · exact h a z
  · rw [z]
    exact hq
/-- what stands behind the test of a turn -/
def qmid (other : List Int) (i : Nat) (st : List Int × List Int) : List Int × List Int :=
  if (st.1.getD (i + other.length - 1) 0).fmod (lead other) ≠ 0 then (st.1.map (fun a => a * lead other), st.2.map (fun a => a * lead other)) else st
def qnum (other : List Int) (i : Nat) (st : List Int × List Int) : Int := ((qmid other i st).1.getD (i + other.length - 1) 0).fdiv (lead other)
theorem qstep_eq (other : List Int) (i : Nat) (st : List Int × List Int) : qstep other i st = (subAt i (qnum other i st) other (qmid other i st).1, (qmid other i st).2.set i (qnum other i st)) := rfl
theorem bd_qmid {A C : Nat} {other : List Int} {i : Nat} {st : List Int × List Int} (hl : lead other ≠ 0) (ho : Bd C other) (h1 : Bd A st.1) (h2 : Bd A st.2) :
    Bd (A + C) (qmid other i st).1 ∧ Bd (A + C) (qmid other i st).2 ∧ (qnum other i st).natAbs < 2 ^ A := by
  have hlc := bd_lead ho
  unfold qnum qmid
  by_cases c : (st.1.getD (i + other.length - 1) 0).fmod (lead other) ≠ 0
  · rw [if_pos c]
    refine ⟨h1.mul hlc, h2.mul hlc, ?_⟩
    show ((st.1.map (fun a => a * lead other)).getD (i + other.length - 1) 0 |>.fdiv (lead other)).natAbs < _
    rw [getD_map_mul, Int.mul_fdiv_cancel _ hl]
    exact bd_getD h1 _
  · rw [if_neg c]
    refine ⟨h1.mono (Nat.le_add_right _ _), h2.mono (Nat.le_add_right _ _), ?_⟩
    exact Nat.lt_of_le_of_lt (fdiv_abs hl (Classical.not_not.mp c)) (bd_getD h1 _)
theorem bd_qstep {A C : Nat} {other : List Int} {i : Nat} {st : List Int × List Int} (hl : lead other ≠ 0) (ho : Bd C other) (h1 : Bd A st.1) (h2 : Bd A st.2) : Bd (A + C + 1) (qstep other i st).1 ∧ Bd (A + C + 1) (qstep other i st).2 := by
  obtain ⟨m1, m2, mq⟩ := bd_qmid (i := i) hl ho h1 h2
  rw [qstep_eq]
  exact ⟨bd_subAt m1 fun b hb => mul_lt mq (ho b hb), bd_set (m2.mono (Nat.le_succ _)) (Nat.lt_of_lt_of_le mq (pow_le (by omega))) i⟩
theorem bd_qloop {C : Nat} {other : List Int} (hl : lead other ≠ 0) (ho : Bd C other) : ∀ (n A : Nat) (st : List Int × List Int), Bd A st.1 → Bd A st.2 → Bd (A + n * (C + 1)) (qloop other n st).1 ∧ Bd (A + n * (C + 1)) (qloop other n st).2
  | 0, A, st, h1, h2 => ⟨h1.mono (Nat.le_add_right _ _), h2.mono (Nat.le_add_right _ _)⟩
  | n + 1, A, st, h1, h2 => by
    obtain ⟨q1, q2⟩ := bd_qstep (i := n) hl ho h1 h2
    obtain ⟨r1, r2⟩ := bd_qloop hl ho n _ (qstep other n st) q1 q2
    have e : A + C + 1 + n * (C + 1) = A + (n + 1) * (C + 1) := by
      rw [Nat.succ_mul]
      omega
    rw [e] at r1 r2
    exact ⟨r1, r2⟩
theorem qloop_len {other : List Int} : ∀ (n : Nat) (st : List Int × List Int), (qloop other n st).1.length = st.1.length ∧ (qloop other n st).2.length = st.2.length
  | 0, st => ⟨rfl, rfl⟩
  | n + 1, st => by
    obtain ⟨h1, h2⟩ := qloop_len (other := other) n (qstep other n st)
    have e1 : (qstep other n st).1.length = st.1.length := by
      rw [qstep_eq, subAt_len]
      unfold qmid
      split
      · exact List.length_map _
      · rfl
    have e2 : (qstep other n st).2.length = st.2.length := by
      rw [qstep_eq, List.length_set]
      unfold qmid
      split
      · exact List.length_map _
      · rfl
    exact ⟨h1.trans e1, h2.trans e2⟩
theorem bd_zeros (A n : Nat) : Bd A (List.replicate n 0) := fun a ha => by
  rw [(List.mem_replicate.mp ha).2]
  exact Nat.pow_pos (by decide)
theorem bd_quot {A C : Nat} {one other : List Int} (hl : lead other ≠ 0) (ho : Bd C other) (h1 : Bd A one) : Bd (A + (one.length - other.length + 1) * (C + 1)) (quot one other) ∧ (quot one other).length ≤ one.length - other.length + 1 := by
  refine ⟨(bd_qloop hl ho _ A (one, List.replicate (one.length - other.length + 1) 0) h1 (bd_zeros _ _)).2.prim, ?_⟩
  unfold quot
  rw [prim_len]
  refine Nat.le_trans (trim_len _) ?_
  rw [(qloop_len _ _).2, List.length_replicate]
  exact Nat.le_refl _
/-- what simple gives is short and small -/
theorem bd_simp1 {f : List Int} (hb : Bd 20 f) (hl : f.length ≤ 8) (h : ∃ a ∈ f, a ≠ 0) : Bd 139988 (simp1 f) ∧ (simp1 f).length ≤ 8 ∧ simp1 f ≠ [] := by
  have C := core_ok h
  have hc : Bd 20 (core f) := hb.trim.strip.prim
  have hlen : (core f).length ≤ 8 := by
    rw [prim_len]
    have h1 := trim_len (strip (trim f))
    have h2 := strip_len (trim f)
    have h3 := trim_len f
    omega
  have hcl := C.lead
  unfold simp1
  by_cases c : (core f).length < 2
  · rw [if_pos c]
    exact ⟨hc.mono (by decide), hlen, lead_ne_nil hcl⟩
  · rw [if_neg c]
    obtain ⟨d1, d2⟩ := ev_deriv_lead hcl (by omega)
    have hd : Bd 23 (deriv (core f)) := bd_deriv hc hlen
    have hd0 := lead_ne_nil d1
    have hW : (23 + 1) * 3 ^ (core f).length ≤ 157464 := by
      have : 3 ^ (core f).length ≤ 3 ^ 8 := Nat.pow_le_pow_right (by decide) hlen
      omega
    obtain ⟨γ, g1, g2⟩ := bd_cfac (hc.mono (by decide)) hd hW (.inr hcl) (.inr d1) hd0 (by omega)
    obtain ⟨cf, cl⟩ := cfac_ok hcl (.inr d1) (by omega : (deriv (core f)).length ≤ (core f).length)
    have hgl := cf.lead
    have hg0 := List.length_pos_iff.mpr (lead_ne_nil hgl)
    obtain ⟨q1, q2⟩ := bd_quot hgl g1 hc
    have e : (core f).length - (cfac (core f) (deriv (core f))).length + 1 ≤ 8 := by omega
    have e2 := Nat.mul_le_mul_right (γ + 1) e
    refine ⟨q1.mono (by omega), Nat.le_trans q2 e, ?_⟩
    have S := simple_ok hcl (by omega) C.zero
    exact lead_ne_nil S.lead
theorem bd_negl {A : Nat} {l : List Int} (h : Bd A l) : Bd A (negl l) := fun a ha => by
  obtain ⟨b, hb, rfl⟩ := List.mem_map.mp ha
  have := h b hb
  omega
theorem trm_negl {l : List Int} (h : Trm l) : Trm (negl l) := by
  rcases h with z | z
  · exact .inl (by rw [z]; rfl)
  · exact .inr (by rw [lead_negl]; omega)
theorem bd_chl {W : Nat} : ∀ (n : Nat) (p q : List Int) (b β : Nat), Bd b p → (b + 1) * 9 ≤ W → Bd β p → Bd β q → (β + 1) * 3 ^ p.length ≤ W → (β + 1) * 9 ≤ W → Trm q → q.length < p.length → ∀ o ∈ chl n p q, ∃ γ, Bd γ o ∧ (γ + 1) * 9 ≤ W ∧ o.length ≤ p.length
  | 0, p, q, b, β, h1, w1, h2, h3, w2, w3, ht, hl => fun o ho => by
    rcases List.mem_cons.mp (show o ∈ [p, q] from ho) with e | e
    · subst e
      exact ⟨b, h1, w1, Nat.le_refl _⟩
    · rw [List.mem_singleton.mp e]
      exact ⟨β, h3, w3, Nat.le_of_lt hl⟩
  | n + 1, p, q, b, β, h1, w1, h2, h3, w2, w3, ht, hl => fun o ho => by
    unfold chl at ho
    by_cases c : 1 < q.length
    · rw [if_pos c] at ho
      rcases List.mem_cons.mp ho with e | e
      · subst e
        exact ⟨b, h1, w1, Nat.le_refl _⟩
      · have hq0 : q ≠ [] := fun z => by
          rw [z] at c
          cases c
        have hld : lead q ≠ 0 := ht.resolve_left hq0
        obtain ⟨r1, r2⟩ := remd_len (one := p) hld
        have hB := bd_remd h2 h3 hq0
        have hst := pot_step hl w2
        have hm : 9 ≤ 3 ^ q.length := Nat.pow_le_pow_right (n := 3) (by decide) (show 2 ≤ q.length by omega)
        have w9 : (β + (p.length + 1 - q.length) * (β + 1) + 1) * 9 ≤ W := Nat.le_trans (Nat.mul_le_mul_left _ hm) hst
        have hlen : (negl (prim (remd p q))).length = (remd p q).length := by rw [negl_len, prim_len' r2]
        obtain ⟨γ, g1, g2, g3⟩ := bd_chl n q (negl (prim (remd p q))) β _ h3 w3 (h3.mono (Nat.le_add_right _ _)) (bd_negl hB.prim) hst w9 (trm_negl (prim_trm _)) (by rw [hlen]; exact r1) o e
        exact ⟨γ, g1, g2, by omega⟩
    · rw [if_neg c] at ho
      rcases List.mem_cons.mp ho with e | e
      · subst e
        exact ⟨b, h1, w1, Nat.le_refl _⟩
      · rw [List.mem_singleton.mp e]
        exact ⟨β, h3, w3, Nat.le_of_lt hl⟩
/-- the line that all numbers of the chain stay below -/
def topB : Nat := 102100000
theorem bd_chain {s : List Int} (hb : Bd 139988 s) (hl : s.length ≤ 8) : ∀ o ∈ chain s, Bd topB o ∧ o.length ≤ 8 := fun o ho => by
  have hm : o ∈ chl s.length s (deriv s) := (List.mem_filter.mp ho).1
  have hd : Bd 139991 (deriv s) := bd_deriv hb hl
  by_cases c : 2 ≤ s.length
  · have hdl : (deriv s).length < s.length := by
      refine Nat.lt_of_le_of_lt (trim_len _) ?_
      rw [List.length_drop, dmul_len]
      omega
    have hW : (139991 + 1) * 3 ^ s.length ≤ 918487512 := by
      have : 3 ^ s.length ≤ 3 ^ 8 := Nat.pow_le_pow_right (by decide) hl
      omega
    obtain ⟨γ, g1, g2, g3⟩ := bd_chl s.length s (deriv s) 139991 139991 (hb.mono (by decide)) (by decide) (hb.mono (by decide)) hd hW (by decide) (trm_trim _) hdl o hm
    exact ⟨g1.mono (by unfold topB; omega), by omega⟩
  · have e : deriv s = [] := deriv_short (by omega)
    rw [e] at hm
    have : o = s ∨ o = [] := by
      cases hs : s.length with
      | zero =>
        rw [hs] at hm
        simpa [chl] using hm
      | succ n =>
        rw [hs] at hm
        simpa [chl] using hm
    rcases this with z | z
    · rw [z]
      exact ⟨hb.mono (by unfold topB; decide), hl⟩
    · rw [z]
      exact ⟨bd_nil _, Nat.zero_le _⟩
end Yk
end
section
set_option maxRecDepth 100000
set_option maxHeartbeats 4000000
namespace Yw
open PySem PySem.Spec PyProof.Rows L2
/-! ### the text by its places -/
def topS (i : Nat) : Stmt := PySem.Challenge.pw_actuarium_k06_whole_yields_to_places.main.body.getD i (.Pass ⟨0, 0, 0, 0⟩)
abbrev sRatio : Stmt := topS 7
abbrev sIsIn : Stmt := topS 11
abbrev sNeedP : Stmt := topS 12
abbrev sNeedT : Stmt := topS 13
abbrev sTrim : Stmt := topS 15
abbrev sPrim : Stmt := topS 16
abbrev sRem : Stmt := topS 17
abbrev sDer : Stmt := topS 18
abbrev sCf : Stmt := topS 19
abbrev sQuot : Stmt := topS 20
abbrev sSimple : Stmt := topS 21
abbrev sChain : Stmt := topS 22
abbrev sVal : Stmt := topS 23
abbrev sChg : Stmt := topS 24
abbrev sRoots : Stmt := topS 25
abbrev sBound : Stmt := topS 26
abbrev sPoly : Stmt := topS 29
abbrev sAbove : Stmt := topS 30
abbrev sAll : Stmt := topS 31
abbrev sCount : Stmt := topS 32
abbrev sOnly : Stmt := topS 33
abbrev sAtL : Stmt := topS 34
abbrev sFloor : Stmt := topS 35
abbrev sTaken : Stmt := topS 37
abbrev sPick : Stmt := topS 38
abbrev sSign : Stmt := topS 43
abbrev sTold : Stmt := topS 44
abbrev sLaw : Stmt := topS 45
/-! ### * and // of great numbers -/
/-- both factors together below the line of bits -/
def CMulG (i j : Int) : Prop := i.natAbs.log2 + j.natAbs.log2 < 134000000
theorem CMulG.ok {i j : Int} (h : CMulG i j) : IntMulOk i j := by
  have b : ∀ x : Int, Builtin.Int.intBits x ≤ x.natAbs.log2 + 1 := fun x => by
    unfold Builtin.Int.intBits
    split <;> omega
  intro z
  have b1 := b i
  have b2 := b j
  have hh : i.natAbs.log2 + j.natAbs.log2 < 134000000 := h
  obtain ⟨_, z2⟩ := Bool.and_eq_true_iff.mp z
  unfold Builtin.Int.intTooBig at z2
  have z3 := of_decide_eq_true z2
  have eL : bitsLine = 134217728 := by decide
  omega
/-- where // by any number goes: the frame that runs, nobody watching -/
structure Pyl (X : Cx) : Prop where
  seer : X.base.NoSeer
  tree : X.prog.given.tree = none
  deep : X.A.depth + Builtin.pylongFrames < recursionLimit
  run : ∃ e l, X.stack = e :: l ∧ e.scope.isGenerator = false ∧ e.scope.isCoroutine = false ∧ e.builtins = builtinsNs ∧ e.globals = mainGlobals
section
variable {X : Cx}
theorem op_mulG : OpR X (binaryOp .Mult) (rI CMulG fun i j => .int (i * j)) := opI fun _ _ _ _ _ _ _ hc q => mul_int q hc.ok
theorem Pyl.room (h : Pyl X) {pins : List (Addr × Obj)} {σ : L2.St} {H : Hp} {s : Shared} (I : Inv X pins σ H s) : PylongRoom (model X.prog X.w) X.A s := by
  obtain ⟨e, l, hs, h1, h2, h3, h4⟩ := h.run
  exact PylongRoom.of I.nolimit h.deep (SeerAt.of (h.seer.keeps I.bk) h.tree (I.ok.frames.trans (congrArg some hs)) h1 h2 h3 h4)
theorem op_divG (h : Pyl X) : OpR X (binaryOp .FloorDiv) (rI (fun _ j => j ≠ 0) fun i j => .int (i.fdiv j)) := by
  intro pins s σ H x y v u Q I rx ry hq
  obtain ⟨i, j, rfl, rfl, hc, q⟩ := hq
  obtain ⟨t, rfl⟩ := rx
  obtain ⟨t', rfl⟩ := ry
  exact floordiv_int hc ⟨.int (i.fdiv j), H, I.tok _, ⟨_, rfl⟩, q⟩ (.inr (h.room I))
end
end Yw
end
section
set_option maxRecDepth 100000
set_option maxHeartbeats 4000000
namespace Yw
open PySem PySem.Spec PyProof.Rows L2 HT
/-! ### t[::-1], t a tuple -/
section
variable {prog : Program} {w : World} {A : Around} {E : Value → Shared → Prop} {s : Shared}
theorem places_back (n : Nat) : Builtin.Slice.slicePlaces ((n : Int) - 1) (-1) (-1) = n := by
  unfold Builtin.Slice.slicePlaces
  have h1 : ¬ ((-1 : Int) > 0) := by omega
  simp only [h1, if_false]
  have h2 : (-(-1) : Int) = 1 := by decide
  rw [h2, Int.ediv_one]
  split <;> omega
theorem cut_back {sl : Addr} {vl vu vk : Value} {n : Nat} {Q : Int × Int × Nat → Shared → Prop} (hs : s.heap.IsSliceOf sl vl vu vk) (pl : IsPart vl none) (pu : IsPart vu none) (pk : IsPart vk (some (-1)))
    (h : Q ((n : Int) - 1, -1, n) s) : wpAny (model prog w) A (Builtin.Slice.sliceApplied (.ref sl) (pure (n : Int))) Q E s := by
  obtain ⟨ob, e1, e2, e3⟩ := hs
  unfold Builtin.Slice.sliceApplied
  unfold Builtin.Slice.sliceFields
  refine wpAny_bind (wpAny_bind (wpAny_field e1 e3 (x := vl) rfl ?_))
  refine wpAny_bind (wpAny_field e1 e3 (x := vu) rfl ?_)
  refine wpAny_bind (wpAny_field e1 e3 (x := vk) rfl (wpAny_pure ?_))
  refine wpAny_bind (slicePart_ pk ?_)
  show wpAny _ _ (if ((-1 : Int) == 0) = true then _ else _) _ _ s
  rw [if_neg (by decide)]
  refine wpAny_bind (slicePart_ pl ?_)
  refine wpAny_bind (slicePart_ pu ?_)
  refine wpAny_bind (wpAny_pure ?_)
  show wpAny _ _ (pure ((n : Int) - 1, (-1 : Int), Builtin.Slice.slicePlaces ((n : Int) - 1) (-1) (-1))) _ _ s
  rw [places_back]
  exact wpAny_pure h
theorem pick_back (xs : Array Value) : ((List.range xs.size).filterMap fun (m : Nat) => xs[((xs.size : Int) - 1 + (m : Int) * -1).toNat]?).toArray = xs.toList.reverse.toArray := by
  have e : (fun (m : Nat) => xs[((xs.size : Int) - 1 + (m : Int) * -1).toNat]?) = (xs[·]?) ∘ fun k => xs.size - 1 - k := by
    funext m
    have : ((xs.size : Int) - 1 + (m : Int) * -1).toNat = xs.size - 1 - m := by omega
    rw [this]
    rfl
  rw [e, ← List.filterMap_map, PySem.W.krv_range, List.filterMap_reverse, PySem.W.krv_all]
theorem tup_back {t sl : Addr} {items : Array Value} {vl vu vk : Value} {Q : Value → Shared → Prop} (ht : IsTup s.heap t items) (hs : s.heap.IsSliceOf sl vl vu vk) (pl : IsPart vl none) (pu : IsPart vu none) (pk : IsPart vk (some (-1)))
    (h : Q (.ref s.heap.objs.size) { s with heap := s.heap.push { cls := .type "tuple", data := .seq items.toList.reverse.toArray } }) (hsz : items.size ≤ sizeLine) : wpAny (model prog w) A (getItem (.ref t) (.ref sl)) Q E s := by
  have hok : sizeOk (.seq items.toList.reverse.toArray) := by
    show items.toList.reverse.toArray.size ≤ sizeLine
    rw [List.size_toArray, List.length_reverse, Array.length_toList]
    exact hsz
  obtain ⟨ob, e1, e2, _⟩ := id hs
  have isS : s.TypeIs (.ref sl) "slice" := ⟨ob, e1, e2⟩
  unfold getItem
  try with_reducible refine wpAny_holding ?_
  first | refine wpAny_bind (wpAny_pure ?_) | skip
  refine wpAny_bind (wpAny_sequenceKey ht.typeIs (by decide) ?_)
  refine wpAny_bind (wpAny_callSpecial?_slot (name := Str.ofString "__getitem__") ht.typeIs PyProof.Rows.slot_tuple_getitem ?_)
  refine wpAny_call_entry PyProof.Rows.slot_tuple_getitem ht.typeIs entry_tuple_getitem ?_ (args_tuple_getitem _ _)
  show wpAny _ _ (Builtin.Tuple.tupleItemsOf (.ref t) >>= _) _ _ s
  refine wpAny_bind (tupleItemsOf_ ht (wpAny_bind (wpAny_typeOf isS ?_)))
  rw [if_pos (by decide)]
  refine wpAny_bind (cut_back hs pl pu pk ?_)
  have hno : ¬ (((items.size : Int) - 1 == 0 && (-1 : Int) == 1 && items.size == items.size) = true) := by
    intro q
    rw [Bool.and_eq_true, Bool.and_eq_true] at q
    exact absurd q.1.2 (by decide)
  show wpAny _ _ (if ((items.size : Int) - 1 == 0 && (-1 : Int) == 1 && items.size == items.size) = true then _ else _) _ _ s
  rw [if_neg hno, pick_back]
  first
    | exact wpAny_bind (m := Builtin.Tuple.tupleExact _) (wpAny_newObj_type (wpAny_pure ⟨_, rfl, wpAny_pure h⟩) hok)
    | exact wpAny_bind (wpAny_bind (m := Builtin.Tuple.tupleExact _) (wpAny_newObj_type (wpAny_pure ⟨_, rfl, wpAny_pure h⟩) hok))
    | exact wpAny_bind (wpAny_bind (m := Builtin.Tuple.tupleExact _) (wpAny_newObj_type (wpAny_pure (wpAny_pure ⟨_, rfl, wpAny_pure h⟩)) hok))
end
/-- t[::-1] of a tuple: a new one -/
def tRevT (K : PySem.W.Frag) (te : TE) : TE := fun σ H Q => te σ H fun x H1 => ∃ a xs, x = .ref a ∧ SqT K H1 a xs ∧ ∀ p, H1 p = none → Q (.ref p) (upd H1 p (.tup xs.reverse))
section
variable {X : Cx}
theorem pe_revT {e : Expr} {te : TE} {k : Nat} {p1 p2 p3 pos : Pos} (he : PE X e te) : PE X (.Subscript e (.Slice none none (some (.UnaryOp .USub (.Constant (.int 1) k p1) p2)) p3) pos) (tRevT X.K te) := by
  refine ⟨fun pins s σ H Q I h => ?_⟩
  refine Subscript_ (thn (he.run pins s σ H _ I h) fun v s1 ⟨x, H1, I1, r1, a, xs, ex, hx, q⟩ => ?_)
  subst ex
  cases r1
  have step : PO X (some (.UnaryOp .USub (.Constant (.int 1) k p1) p2)) (tPart (tUn (rU fun i => .int (-i)) (tC (.int 1)))) := po_some (pe_un un_neg pe_int)
  refine wpAny_Slice (thn (po_none.run pins s1 σ H1 (fun o H2 => o = none ∧ H2 = H1) I1 ⟨rfl, rfl⟩) ?_)
  rintro vl s2 ⟨o1, H2, I2, pl, rfl, rfl⟩
  refine thn (po_none.run pins s2 σ H2 (fun o H3 => o = none ∧ H3 = H2) I2 ⟨rfl, rfl⟩) ?_
  rintro vu s3 ⟨o2, H3, I3, pu, rfl, rfl⟩
  refine thn (step.run pins s3 σ H3 (fun o H4 => o = some (-1) ∧ H4 = H3) I3 ⟨1, rfl, -1, rfl, rfl, rfl⟩) ?_
  rintro vk s4 ⟨o3, H4, I4, pk, rfl, rfl⟩
  have I5 : Inv X pins σ H4 { s4 with heap := s4.heap.push { cls := .type "slice", data := .fields #[vl, vu, vk] } } := I4.kept (t' := s4.toks) fun b ob q => Heap.get?_push_of_some _ q
  obtain ⟨its, r, ht, hz⟩ := I5.tuple hx
  have hlen := r.length
  show wpAny (model X.prog X.w) X.A (subscriptTail e (.Slice none none (some (.UnaryOp .USub (.Constant (.int 1) k p1) p2)) p3) (.ref a) (.ref s4.heap.objs.size)) (EP X pins σ Q) X.xe { s4 with heap := s4.heap.push { cls := .type "slice", data := .fields #[vl, vu, vk] } }
  refine tail_any (ops := [.ref a, .ref s4.heap.objs.size]) ht.typeIs (PyProof.Rows.slot_tuple_getitem.lookup) ?_ (by with_unfolding_all rfl)
  refine tup_back ht (Heap.IsSliceOf.new _ vl vu vk) pl pu pk ?_ (by rw [List.size_toArray]; omega)
  refine ⟨.ref _, _, I5.laid (t' := s4.toks) (o := .tup xs.reverse) (fun b ob q => Heap.get?_push_of_some _ q) (Nat.le_refl _) ?_, rfl, q _ (I5.hok.fresh (Nat.le_refl _))⟩
  exact ⟨by rw [List.length_reverse]; exact hz, _, r.reverse, ⟨_, Heap.get?_push_size _ rfl, rfl, _, rfl⟩⟩
end
end Yw
end
section
set_option maxRecDepth 100000
set_option maxHeartbeats 4000000
namespace PySem
open Sem (wp)
set_option maxHeartbeats 1000000 in
/-- enumerate over anything whose iterator is known -/
theorem yw_enum_new {v : Value} {ob : Obj} {Hh : Heap → Prop} (B : Begins v ob Hh) :
    Meets (Builtin.«enumerate.__new__» ⟨[.type "enumerate", v], []⟩) (fun _ R s => Hh s.heap ∧
      R (.ok (.ret (.ref (s.heap.push ob).objs.size))) { s with heap := (s.heap.push ob).push { cls := .type "enumerate", data := .fields #[.none, .bool false, .ref s.heap.objs.size, rawInt 0, .none, .none] } }) :=
  .of_wp fun prog w A R s hq => by
    obtain ⟨hp, g, d, tk, os⟩ := s
    obtain ⟨hB, hq⟩ := hq
    have hsub := sub_enumerate
    have go : ∀ {A' : Around} {E : Value → Shared → Prop} {Q : Value → Shared → Prop}, Q (.ref hp.objs.size) ⟨hp.push ob, g, d, tk, os⟩ → wpAny (model prog w) A' (pyIter v) Q E ⟨hp, g, d, tk, os⟩ :=
      fun q => B.iter prog w _ _ ⟨hp, g, d, tk, os⟩ _ hB q
    wp_walk using go
    refine wpAny_stack_any fun st => wpAny_pure ?_
    split
    · rename_i c _ _ _ _ _
      cases (c == Value.type "enumerate")
      · wp_walk using go
        exact ⟨_, rfl, hq⟩
      · wp_walk using go
        exact ⟨_, rfl, hq⟩
    · wp_walk using go
      exact ⟨_, rfl, hq⟩
theorem yw_enum_call {prog : Program} {w : World} {A : Around} {E : Value → Shared → Prop} {s : Shared} {v : Value} {ob : Obj} {Hh : Heap → Prop} {Q : Value → Shared → Prop} (B : Begins v ob Hh) (hB : Hh s.heap)
    (hq : ∀ h', IsEnum h' (s.heap.objs.size + 1) s.heap.objs.size 0 .none → h'.get? s.heap.objs.size = some ob → (∀ b o, s.heap.get? b = some o → h'.get? b = some o) → Q (.ref (s.heap.objs.size + 1)) { s with heap := h' }) :
    wpAny (model prog w) A (call (.type "enumerate") [v]) Q E s := by
  refine callType_new F.called_enumerate (by decide) (F.typeCall_enumerate_1 _) (F.newCall_enumerate_1 _) (fun o => F.args_object_init_2 o _) F.entry_enumerate_new (yw_enum_new B) ⟨hB, ?_⟩
  have e1 : (s.heap.push ob).objs.size = s.heap.objs.size + 1 := Heap.size_push ..
  have e2 := Heap.get?_push_size (s.heap.push ob) (o := { cls := .type "enumerate", data := .fields #[.none, .bool false, .ref s.heap.objs.size, rawInt 0, .none, .none] }) rfl
  show _ ∧ _
  rw [e1] at e2 ⊢
  exact ⟨⟨_, e2, rfl⟩, hq _ e2 (Heap.get?_push_of_some _ (Heap.get?_push_size _ B.free)) fun b o z => Heap.get?_push_of_some _ (Heap.get?_push_of_some _ z)⟩
end PySem
namespace Yw
open PySem PySem.Spec PyProof.Rows L2 HT
/-! ### enumerate(t), t a tuple -/
def IteT (K : PySem.W.Frag) (a : Addr) : It :=
  ⟨fun i H => ∃ (xs : List V) (x : V), SqT K H a xs ∧ xs[i]? = some x, fun i H v H' => ∃ T x, v = .ref T ∧ H T = none ∧ H' = upd H T (.tup [.int (i : Nat), x]) ∧ ∀ xs, SqT K H a xs → xs[i]? = some x, fun i H => ∃ xs : List V, SqT K H a xs ∧ xs.length = i⟩
theorem turn_enumT {P : Program} {w : World} {K : PySem.W.Frag} {elts : List Expr} {kk : Nat} {tpos : Pos} (a e it : Addr) :
    Turn P w K (.Tuple elts kk tpos) (IteT K a) [e, it] e (fun i h => (∃ old, IsEnum h e it ((i : Nat) : Int) old) ∧ h.IsTupleIter it a i ∧ e ≠ it ∧ e ≠ a ∧ a ≠ it) where
  mem := by simp
  obj := fun i h st b hb => by
    obtain ⟨⟨old, he⟩, ⟨o, ho, hc, hd⟩, _⟩ := st
    rcases (show b = e ∨ b = it by simpa using hb) with z | z
    · subst z
      exact ⟨_, he, fun v q => nomatch q⟩
    · subst z
      refine ⟨o, ho, fun v q => ?_⟩
      rw [hd] at q
      cases q
  keep := fun i h h' st k => by
    obtain ⟨⟨old, he⟩, hi, hne⟩ := st
    exact ⟨⟨old, k e (by simp) _ he⟩, hi.at fun o q => k it (by simp) o q, hne⟩
  item := by
    intro X hP hw hK hc i pins s σ H E I hf st hg
    subst hP
    subst hw
    subst hK
    obtain ⟨⟨old, he⟩, hit, hne, hea, hai⟩ := st
    obtain ⟨xs, x, hq, hx⟩ := hg
    obtain ⟨its, rv, p, hz⟩ := I.tuple hq
    obtain ⟨u, hu, ru⟩ := rv.get hx
    have hel : e < s.heap.objs.size := Heap.lt_size he
    have hil : it < s.heap.objs.size := by
      obtain ⟨_, q, _⟩ := hit
      exact Heap.lt_size q
    have hh : X.A.in1.handled = none := I.ok.hd hc
    have lt : i < its.toArray.size := by
      rw [List.size_toArray]
      exact (List.getElem?_eq_some_iff.mp hu).1
    refine wpAny_pyNext_enum_itemD (Draws.tuple hh it a hai its.toArray) he ⟨hit, p⟩ lt hne (by simp [hne, hea]) fun y h' tk hy ho hst hT _ hk => ?_
    have ey : y = u := by
      have h9 : its[i]? = some y := by simpa using hy
      rw [hu] at h9
      exact (Option.some.inj h9).symm
    subst ey
    refine ⟨_, rfl, wpAny_letOwnedTupleGo_enum (s := { s with heap := h', toks := tk + 1 }) ho fun h2 he2 sb => ?_⟩
    have hT2 : h2.get? s.heap.objs.size = some { cls := .type "tuple", data := .seq #[.int i tk, y] } := (sb.2 _ (Nat.ne_of_gt hel)).trans hT
    have new : ObjOk X.prog X.w (upd H s.heap.objs.size (.tup [.int (i : Nat), x])) h2 s.heap.objs.size (.tup [.int (i : Nat), x]) :=
      ⟨by show 2 ≤ sizeLine; decide, [.int i tk, y], .cons ⟨_, rfl⟩ (.cons ru .nil), ⟨_, hT2, rfl, _, rfl⟩⟩
    have I1 : Inv X pins σ (upd H s.heap.objs.size (.tup [.int (i : Nat), x])) { s with heap := h2, toks := tk + 1 } :=
      I.turnedNew (ch := [e, it]) (fun b ob hb q => (sb.2 b (fun z => hb (by simp [z]))).trans (hk b ob (fun z => hb (by simp [z])) (fun z => hb (by simp [z])) q)) hf (Nat.le_refl _) new
    refine ⟨.ref s.heap.objs.size, _, I1, rfl, ⟨_, x, rfl, I.hok.fresh (Nat.le_refl _), rfl, fun ys hys => by rw [I.tuple_inj hys hq]; exact hx⟩, ⟨⟨y, ?_⟩, hst.1.at fun o q => (sb.2 it (Ne.symm hne)).trans q, hne, hea, hai⟩, fun b hb => ?_⟩
    · have e1 : ((i + 1 : Nat) : Int) = (i : Int) + 1 := by omega
      rw [e1]
      exact he2
    · have hb' : b < s.heap.objs.size := by
        rcases (show b = e ∨ b = it by simpa using hb) with z | z
        · rw [z]
          exact hel
        · rw [z]
          exact hil
      rw [upd_ne (Nat.ne_of_lt hb')]
      exact (hf b hb).1
  done := by
    intro X hP hw hK hc i pins s σ H E I hf st hg
    subst hP
    subst hw
    subst hK
    obtain ⟨⟨old, he⟩, hit, hne, hea, hai⟩ := st
    obtain ⟨xs, hq, hx⟩ := hg
    obtain ⟨its, rv, p, hz⟩ := I.tuple hq
    obtain ⟨f0, f1, f2, f3, f4, f5⟩ := hf it (by simp)
    have hl := rv.length
    have hh : X.A.in1.handled = none := I.ok.hd hc
    have es : its.toArray.size = i := by rw [List.size_toArray]; omega
    exact wpAny_pyNext_enum_endD (Draws.tuple hh it a hai its.toArray) he ⟨by rw [es]; exact hit, p⟩ fun h' eb => ⟨rfl, I.turned (t' := s.toks) (fun b o hb q => eb b o hb q) f0 f1 f3 f4 f5⟩
  self := fun A i s Q E st h => by
    obtain ⟨⟨_, he⟩, _⟩ := st
    exact wpAny_pyIter_enum he h
def iEnumT (K : PySem.W.Frag) (ta : TA) : TI := fun σ H R => ta σ H fun vs H1 => ∃ a xs, vs = [.ref a] ∧ SqT K H1 a xs ∧ R (IteT K a) H1
section
variable {X : Cx}
theorem pi_enumT {e : Expr} {ta : TA} {p pos tpos : Pos} {elts : List Expr} {kk : Nat} (hg : Gl X "enumerate") (hm : X.mg "enumerate" = none) (ha : PA X [e] ta) (hs : starEach [e] X.env = [(false, eval e X.env)] := by rfl) :
    PI X (.Tuple elts kk tpos) (.Call (.Name "enumerate" p) [e] [] pos) (iEnumT X.K ta) := by
  refine ⟨fun pins s σ H R I h => ?_⟩
  refine Call_ (ld_blt I hg hm boot_enumerate (PyProof.Rows.callWith_type1 (thn (ha.run pos pins s σ H _ I h) ?_) hs rfl))
  rintro us s1 ⟨vs, H1, I1, r1, a, xs, ex, hq, q⟩
  subst ex
  obtain ⟨u, eu, ru⟩ := vals1 r1
  subst eu
  cases ru
  obtain ⟨its, rv, p', hz⟩ := I1.tuple hq
  have al : a < s1.heap.objs.size := by
    obtain ⟨_, q1, _⟩ := p'
    exact Heap.lt_size q1
  refine yw_enum_call (begins_tuple a its.toArray) p' fun h' he hit hk => wpAny_pyIter_enum he ?_
  have I2 : Inv X pins σ H1 { s1 with heap := h' } := I1.kept (t' := s1.toks) hk
  refine ⟨s1.heap.objs.size + 1, [s1.heap.objs.size + 1, s1.heap.objs.size], _, _, H1, rfl, I2, turn_enumT a (s1.heap.objs.size + 1) s1.heap.objs.size, ⟨⟨.none, he⟩, ⟨_, hit, rfl, rfl⟩, Nat.succ_ne_self _, ?_, ?_⟩, fun b hb => ?_, q⟩
  · exact Nat.ne_of_gt (Nat.lt_succ_of_lt al)
  · exact Nat.ne_of_lt al
  · have hle : s1.heap.objs.size ≤ b := by
      rcases (show b = s1.heap.objs.size + 1 ∨ b = s1.heap.objs.size by simpa using hb) with z | z
      · rw [z]
        exact Nat.le_succ _
      · rw [z]
        exact Nat.le_refl _
    exact I1.fpOk hle (I1.hok.fresh hle)
/-- for k, b in enumerate(t): place by place -/
theorem for_enumT {K : PySem.W.Frag} {a : Addr} {xs : List V} {g : TG} {tb : TS} {D : Ends} {σ : L2.St} {H : Hp} (Pv : Nat → L2.St → Hp → Prop) (h0 : Pv 0 σ H) (hl : ∀ i σ H, Pv i σ H → SqT K H a xs)
    (hs : ∀ (i : Nat) (x : V) (T : Addr) (σ : L2.St) (H : Hp), xs[i]? = some x → Pv i σ H → H T = none → g (.ref T) σ (upd H T (.tup [.int (i : Nat), x])) fun σ2 H2 => tb { D with nx := Pv (i + 1), ct := Pv (i + 1), bk := D.nx } σ2 H2)
    (hd : ∀ σ H, Pv xs.length σ H → D.nx σ H) :
    ∃ W : Nat → Nat → L2.St → Hp → Prop, (∃ m, W 0 m σ H) ∧ ∀ i m σ H, W i m σ H →
      ((IteT K a).stop i H ∧ D.nx σ H) ∨ ((IteT K a).go i H ∧ ∃ N : L2.St → Hp → Prop, (∀ σ2 H2, N σ2 H2 → ∃ m', m' < m ∧ W (i + 1) m' σ2 H2) ∧
        ∀ x H1, (IteT K a).yld i H x H1 → g x σ H1 fun σ2 H2 => tb { D with nx := N, ct := N, bk := D.nx } σ2 H2) := by
  refine ⟨fun i m σ H => Pv i σ H ∧ i + m = xs.length, ⟨xs.length, h0, by omega⟩, fun i m σ H hW => ?_⟩
  obtain ⟨hp, em⟩ := hW
  have hq := hl i σ H hp
  by_cases c : i < xs.length
  · refine .inr ⟨⟨xs, xs[i], hq, List.getElem?_eq_getElem c⟩, Pv (i + 1), fun σ2 H2 h2 => ⟨m - 1, by omega, h2, by omega⟩, fun x H1 hy => ?_⟩
    obtain ⟨T, y, rfl, hT, rfl, hx⟩ := hy
    exact hs i y T σ H (hx xs hq) hp hT
  · have e : i = xs.length := by omega
    subst e
    exact .inl ⟨⟨xs, hq, rfl⟩, hd σ H hp⟩
end
end Yw
end
section
set_option maxRecDepth 100000
set_option maxHeartbeats 4000000
namespace Yw
open PySem PySem.Spec PyProof.Rows L2 HT
/-! ### a generator expression over a tuple of ints, eaten by all or max -/
/-- the def's table of code objects -/
def Tb (H : Hp) (P : Addr) : Prop := ∃ ps : Array Value, H P = some (.tbl ps) ∧ TriplesOk ps.toList
/-- the table at P may have grown; all else is as it was -/
def TbOnly (P : Addr) (H H' : Hp) : Prop := Tb H' P ∧ ∀ b, b ≠ P → H' b = H b
/-- what the element is, wherever the generator runs: F of the item -/
def EltN (X : Cx) (scope : Scope) (x : Str) (elt : Expr) (F : Int → Value → Prop) : Prop :=
  Mod X.K X.mg X.base → ∀ (cenv : Env) (A' : Around) (E' : Value → Shared → Prop) (n : Int) (t : Tok) (s2 : Shared) (m2 : Str → Option Value), cenv.scope = scope → cenv.globals = mainGlobals → cenv.builtins = builtinsNs → A'.handled = none →
    A'.depth ≤ X.A.depth + 1 → A'.units ≤ X.A.units + 8 → (∀ b o, X.base.get? b = some o → s2.heap.get? b = some o) → s2.heap.Ns cenv.locals m2 → m2 x = some (.int n t) →
    wpAny (model X.prog X.w) A' (eval elt cenv) (fun y s3 => F n y ∧ Keeps s2 s3) E' s2
/-- the generator stands at g, ready to be walked -/
def GenReady (X : Cx) (pins : List (Addr × Obj)) (σ : L2.St) (H1 : Hp) (P : Addr) (ns : List Int) (F : Int → Value → Prop) (g : Addr) (s5 : Shared) : Prop :=
  ∃ (fp wr : List Addr) (G : Array GenState → Array GenState → Prop) (cnt : Nat) (St : Nat → Shared → Prop), cnt = ns.length ∧
    WalksS X.prog X.w X.A.in1 g fp wr G cnt (fun j y => ∃ n, ns[j]? = some n ∧ F n y) St ∧ St 0 s5 ∧ (∀ b ∈ fp, b < s5.heap.objs.size) ∧
    ∀ s', Moved wr G s5 s' → ∃ H2, TbOnly P H1 H2 ∧ Inv X pins σ H2 s'
theorem all_pass (n : Nat) : passing (fun _ => true) n 0 = List.range n := by
  unfold passing
  simp
theorem vals_at : ∀ {ns : List Int} {its : List Value} {i : Nat} {v : Value}, Vals (ns.map V.int) its → its[i]? = some v → ∃ n t, ns[i]? = some n ∧ v = .int n t
  | [], _, i, v, .nil, h => by simp at h
  | n :: ns, _, 0, v, .cons r _, h => by
    obtain ⟨t, e⟩ := r
    have e2 : _ = v := Option.some.inj h
    exact ⟨n, t, rfl, by rw [← e2]; exact e⟩
  | n :: ns, _, i + 1, v, .cons _ t, h => vals_at (i := i) (v := v) t h
section
variable {X : Cx} {pins : List (Addr × Obj)} {σ : L2.St} {H : Hp} {s : Shared}
theorem inv_tbl {P : Addr} {ps more : Array Value} {h' : Heap} {g' : Array GenState} {d' : Drawn} {t' : Nat} (I : Inv X pins σ H s) (hP : H P = some (.tbl ps)) (k : ∀ b o, b ≠ P → s.heap.get? b = some o → h'.get? b = some o)
    (hm : h'.get? P = some { cls := .none, data := .fields (ps ++ more) }) (hg : AllBare g') : Inv X pins σ (upd H P (.tbl (ps ++ more))) { s with heap := h', gens := g', drawn := d', toks := t' } := GxR.inv_tab I hP k hm hg
theorem gen_tup {c P : Addr} {elt iter : Expr} {x : Str} {px gpos : Pos} {scope : Scope} {F : Int → Value → Prop} {te : TE} {k : Nat} {Q' : Value → Shared → Prop} {R : List Int → Hp → Prop}
    (hr : Room k X.A) (TB : LamX.TabB X.base X.mg c P) (hcode : X.env.code = .ref c) (S : GxR.GenS X.env scope x) (hi : PE X iter te) (hel : EltN X scope x elt F)
    (hs : ∀ v, genFold iter X.env v = pure v) (I : Inv X pins σ H s) (h : te σ H fun v H1 => ∃ (a : Addr) (ns : List Int), v = .ref a ∧ SqT X.K H1 a (ns.map V.int) ∧ Tb H1 P ∧ R ns H1)
    (hQ : ∀ ns H1 g s5, R ns H1 → GenReady X pins σ H1 P ns F g s5 → Q' (.ref g) s5) :
    wpAny (model X.prog X.w) X.A (eval (.GeneratorExp elt [⟨.Name x px, iter, [], 0⟩] scope gpos) X.env) Q' X.xe s := by
  refine wpAny_GeneratorExp_walksQD hr.hd S.co (closure_ok S.free) S.cell S.dot S.loc S.kind (by have := hr.dp; omega) ?_ hs
  refine thn (hi.run pins s σ H _ I h) ?_
  rintro xv s1 ⟨v, H1, I1, r1, a, ns, ev, hq, ⟨ps, hP, ht⟩, q1⟩
  subst ev
  cases r1
  obtain ⟨its, rv, pt, hz⟩ := I1.tuple hq
  have hlen : its.toArray.size = ns.length := by
    have := rv.length
    rw [List.length_map] at this
    rw [List.size_toArray]
    omega
  have hal : a < s1.heap.objs.size := by
    obtain ⟨_, q, _⟩ := pt
    exact Heap.lt_size q
  generalize hob : ({ cls := .type "tuple_iterator", data := .fields #[.ref a, .int 0 0] } : Obj) = o
  refine wpAny_pyIter_tuple (show s1.heap.IsTuple a its.toArray from pt) ?_
  rw [hob]
  have hPs : s1.heap.get? P = some { cls := .none, data := .fields ps } := I1.hok P _ hP
  have hPlt : P < s1.heap.objs.size := Heap.lt_size hPs
  have hP2 : (s1.heap.push o).get? P = some { cls := .none, data := .fields ps } := Heap.get?_push_of_some _ hPs
  have cd : PySem.W.CodeHd (s1.heap.push o) c P := TB.code.keeps fun b u e => Heap.get?_push_of_some _ (I1.bk b u e)
  have lim2 : (s1.heap.push o).NoLimit := I1.nolimit.push o
  have sz2 : (s1.heap.push o).objs.size = s1.heap.objs.size + 1 := Heap.size_push ..
  have aP : a ≠ P := fun z => by
    obtain ⟨ob, e1, e2, _⟩ := pt
    rw [z, hPs] at e1
    cases e1
    cases e2
  have cont : ∀ (code : Value) (h3 : Heap) (tk : Nat) (ps' : Array Value), Heap.ExtBut P (s1.heap.push o) h3 → (s1.heap.push o).objs.size ≤ h3.objs.size → h3.get? P = some { cls := .none, data := .fields ps' } → (∃ more, ps' = ps ++ more) → TriplesOk ps'.toList →
      wpAny (model X.prog X.w) X.A (builtinsFor X.env.globals X.env.builtins) (fun bi s4 =>
        ∃ Ia fp wr n0 Pf St0 pz F', Value.ref s1.heap.objs.size = .ref Ia ∧ (∀ A' : Around, A'.handled = none → Walks X.prog X.w A' Ia fp wr n0 Pf St0) ∧ St0 0 s4.heap ∧ (∀ b ∈ fp, b < s4.heap.objs.size) ∧ s4.heap.NoLimit ∧ cStatics ∉ wr ∧
          (∀ href : Heap, (∀ b o, s4.heap.get? b = some o → href.get? b = some o) →
            QuietGenD X.prog X.w (genEnv scope (cloFrom X.env.cells scope.names []) s4.heap.objs.size code bi X.env) x [] elt (List.range s4.heap.objs.size) wr Pf pz F' href (X.A.depth + 1) (X.A.units + 8)) ∧
          (∀ a h5 tk gs, gs.bare = true → s4.heap.objs.size < a → h5.objs.size = a + 1 → (∀ b o, s4.heap.get? b = some o → h5.get? b = some o) →
            WalksS X.prog X.w X.A.in4 a (a :: s4.heap.objs.size :: List.range s4.heap.objs.size) (s4.heap.objs.size :: wr) (GenOnlyQ s4.gens.size) (passing pz n0 0).length
              (fun j y => ∃ i, (passing pz n0 0)[j]? = some i ∧ F' i y) (GenAt X.prog X.w X.A.in4 a s4.gens.size s4.heap.objs.size (List.range s4.heap.objs.size) wr pz n0 F') →
            GenAt X.prog X.w X.A.in4 a s4.gens.size s4.heap.objs.size (List.range s4.heap.objs.size) wr pz n0 F' 0 { s4 with gens := s4.gens.push gs, toks := tk, heap := h5 } →
            Q' (.ref a) { s4 with gens := s4.gens.push gs, toks := tk, heap := h5 })) X.xe { s1 with heap := h3, toks := tk } := by
    intro code h3 tk ps' hx hsz hP3 hmore ht3
    obtain ⟨bm, ob, e1, e2, e3, e4, e5, e6, e7, e8⟩ := TB.bm
    have hcP : cStatics ≠ P := fun e => by
      obtain ⟨_, ⟨o', es, ep, ho, hd, _⟩, _⟩ := I1.nolimit
      rw [e, hPs] at ho
      cases ho
      cases hd
    have hcl : cStatics < s1.heap.objs.size := let ⟨_, hns, _⟩ := I1.nolimit; hns.lt
    have keep3 : ∀ b u, b ≠ P → s1.heap.get? b = some u → h3.get? b = some u := fun b u hb e => hx b u hb (Heap.get?_push_of_some _ e)
    have hbP : ∀ b u, X.base.get? b = some u → b ≠ P := fun b u e z => by
      have h9 := (I1.bs b u e).2
      rw [z, hP] at h9
      cases h9
    refine wpAny_builtinsFor (m := X.mg) (by rw [I1.ok.glob]; exact ((I1.mod.glob.keeps I1.bk).push o).extBut hx TB.gP) e1 e2 (keep3 _ _ e4 (I1.bk _ _ e5)) e6 e7 e8 ?_
    refine ⟨s1.heap.objs.size, [s1.heap.objs.size, a], [s1.heap.objs.size], its.toArray.size, (fun i v => its.toArray[i]? = some v), (fun i h => h.IsTupleIter s1.heap.objs.size a i ∧ h.IsTuple a its.toArray), (fun _ => true), (fun i y => ∃ n, ns[i]? = some n ∧ F n y), rfl, (fun A' hA => Walks.tuple hA _ _ (Nat.ne_of_lt hal) its.toArray), ?_, ?_, lim2.extBut hx hcP, ?_, ?_, ?_⟩
    · refine ⟨⟨o, ?_, ?_, ?_⟩, ?_⟩
      · exact hx _ _ (Nat.ne_of_gt hPlt) (Heap.get?_push_size _ (by rw [← hob] <;> rfl))
      · rw [← hob] <;> rfl
      · rw [← hob] <;> rfl
      · obtain ⟨ob', q1, q2, q3⟩ := pt
        exact ⟨ob', keep3 a _ aP q1, q2, q3⟩
    · intro b hb
      have hb' : b < (s1.heap.push o).objs.size := by
        rw [sz2]
        rcases (show b = s1.heap.objs.size ∨ b = a by simpa using hb) with z | z
        · rw [z]
          exact Nat.lt_succ_self _
        · rw [z]
          exact Nat.lt_succ_of_lt hal
      exact Nat.lt_of_lt_of_le hb' hsz
    · intro z
      rcases List.mem_cons.mp z with z | z
      · exact Nat.ne_of_lt hcl z
      · cases z
    · intro href hhref
      refine ⟨fun A' E' i v s2 m2 hA _ _ hPv hn hm hk => ?_, fun A' E' i v s2 m2 hA hD hU hPv hp hn hm hk => ?_⟩
      · simp only [List.forIn_nil]
        exact wpAny_pure ⟨rfl, GxR.keeps_refl _⟩
      · have hv : its[i]? = some v := by simpa using hPv
        obtain ⟨n, u, hn1, rfl⟩ := vals_at rv hv
        refine wpAny_mono (hel I1.mod _ A' E' n u s2 m2 rfl I1.ok.glob rfl hA hD hU (fun b ob e => ?_) hn hm) (fun y s3 r => ⟨⟨n, hn1, r.1⟩, r.2⟩) fun _ _ e => e
        have e9 := I1.bk b ob e
        have lt9 := Heap.lt_size e9
        have h9 : s1.heap.objs.size + 1 ≤ h3.objs.size := by
          rw [← sz2]
          exact hsz
        exact hk b (List.mem_range.mpr (Nat.lt_of_lt_of_le (Nat.lt_succ_of_lt lt9) h9)) (fun z => by
          rw [List.mem_singleton.mp z] at lt9
          exact Nat.lt_irrefl _ lt9) ob (hhref b ob (keep3 b ob (hbP b ob e) e9))
    · intro g h5 tk5 gs hgb hag hsz5 hk5 W5 hat
      simp only [all_pass, List.length_range] at W5
      have hP' : (fun (j : Nat) (y : Value) => ∃ i, (List.range its.toArray.size)[j]? = some i ∧ ∃ n, ns[i]? = some n ∧ F n y) = fun j y => ∃ n, ns[j]? = some n ∧ F n y := by
        funext j y
        refine propext ⟨?_, ?_⟩
        · rintro ⟨i, hi1, hi2⟩
          obtain ⟨hj, ej⟩ := List.getElem?_eq_some_iff.mp hi1
          rw [List.getElem_range] at ej
          rw [ej]
          exact hi2
        · rintro ⟨n, hn1, hn2⟩
          have hj : j < its.toArray.size := by
            rw [hlen]
            exact (List.getElem?_eq_some_iff.mp hn1).1
          exact ⟨j, by rw [List.getElem?_eq_getElem (by rw [List.length_range]; exact hj), List.getElem_range], n, hn1, hn2⟩
      rw [hP'] at W5
      refine hQ ns H1 g _ q1 ⟨_, _, _, _, _, hlen, W5.in4_1, hat, fun b hb => ?_, fun s' hm => ?_⟩
      · show b < h5.objs.size
        rw [hsz5]
        rcases List.mem_cons.mp hb with z | z
        · rw [z]
          exact Nat.lt_succ_self _
        · rcases List.mem_cons.mp z with z | z
          · rw [z]
            exact Nat.lt_succ_of_lt hag
          · exact Nat.lt_succ_of_lt (Nat.lt_trans (List.mem_range.mp z) hag)
      · obtain ⟨more, em⟩ := hmore
        have nwr : ∀ b u, s1.heap.get? b = some u → b ∉ h3.objs.size :: [s1.heap.objs.size] := fun b u e hb => by
          have hl := Heap.lt_size e
          rcases List.mem_cons.mp hb with z | z
          · rw [z] at hl
            have h9 : s1.heap.objs.size + 1 ≤ h3.objs.size := by rw [← sz2]; exact hsz
            exact absurd (Nat.lt_of_lt_of_le hl (Nat.le_of_succ_le h9)) (Nat.lt_irrefl _)
          · rw [List.mem_singleton.mp z] at hl
            exact Nat.lt_irrefl _ hl
        have J := inv_tbl (more := more) (h' := s'.heap) (g' := s'.gens) (d' := s'.drawn) (t' := s'.toks) I1 hP (fun b u hb e => hm.heap b u (nwr b u e) (hk5 b u (keep3 b u hb e)))
          (by rw [← em]; exact hm.heap P _ (nwr P _ hPs) (hk5 P _ hP3)) (AllBare.movedS (I1.bare.push hgb) hm)
        rw [GxR.sh_eta s1 s' hm.os] at J
        exact ⟨upd H1 P (.tbl (ps ++ more)), ⟨⟨ps ++ more, upd_same, by rw [← em]; exact ht3⟩, fun b hb => upd_ne hb⟩, J⟩
  refine ⟨lim2, ?_⟩
  cases hf : codeAmong gpos ps.toList with
  | none =>
    refine wpAny_genexprCodeX hcode (cd.code hP2 ht) (cd.tab hP2) hf fun c' h' tk hx hge hlt hco' _ htab' _ => ?_
    obtain ⟨o1, vs, f1, tf, fl, tg, inF, tx, tt, op, _, _, _, _, _, _, _, _, _, htr, _⟩ := hco'
    exact cont _ h' tk _ hx (Nat.le_trans hge (Nat.le_of_lt hlt)) htab'.2 ⟨_, rfl⟩ htr
  | some cv =>
    refine wpAny_genexprCode_hit hcode (cd.code hP2 ht) hf ?_
    exact cont cv (s1.heap.push o) s1.toks ps (Heap.ExtBut.refl _ _) (Nat.le_refl _) hP2 ⟨#[], by simp⟩ ht
/-! ### all(..), max(..) -/
/-- all(test for x in t) -/
def tAllG (K : PySem.W.Frag) (P : Addr) (pb : Int → Bool) (te : TE) : TE := fun σ H Q => te σ H fun v H1 => ∃ (a : Addr) (ns : List Int), v = .ref a ∧ SqT K H1 a (ns.map V.int) ∧ Tb H1 P ∧ ∀ H2, TbOnly P H1 H2 → Q (.bl (ns.all pb)) H2
/-- max(value for x in t), t not empty -/
def tMaxG (K : PySem.W.Frag) (P : Addr) (fi : Int → Int) (te : TE) : TE := fun σ H Q => te σ H fun v H1 => ∃ (a : Addr) (ns : List Int), v = .ref a ∧ SqT K H1 a (ns.map V.int) ∧ Tb H1 P ∧ 0 < ns.length ∧
  ∀ H2 m, TbOnly P H1 H2 → m ∈ ns.map fi → (∀ y ∈ ns, fi y ≤ m) → Q (.int m) H2
theorem range_all (ns : List Int) (pb : Int → Bool) : (List.range ns.length).all (fun j => match ns[j]? with | some n => pb n | none => false) = ns.all pb := by
  rw [Bool.eq_iff_iff, List.all_eq_true, List.all_eq_true]
  constructor
  · intro h n hn
    obtain ⟨j, hj, e⟩ := List.getElem_of_mem hn
    have := h j (List.mem_range.mpr hj)
    rw [List.getElem?_eq_getElem hj, e] at this
    exact this
  · intro h j hj
    have hj' := List.mem_range.mp hj
    rw [List.getElem?_eq_getElem hj']
    exact h _ (List.getElem_mem hj')
theorem pe_allG {c P : Addr} {elt iter : Expr} {x : Str} {px p pos gpos : Pos} {scope : Scope} {pb : Int → Bool} {te : TE} {k : Nat}
    (hr : Room k X.A) (hg : Gl X "all") (hm : X.mg "all" = none) (TB : LamX.TabB X.base X.mg c P) (hcode : X.env.code = .ref c) (S : GxR.GenS X.env scope x) (hi : PE X iter te) (hel : EltN X scope x elt (fun n y => y = .bool (pb n)))
    (hs : ∀ v, genFold iter X.env v = pure v)
    (he : starEach [.GeneratorExp elt [⟨.Name x px, iter, [], 0⟩] scope gpos] X.env = (false, eval (.GeneratorExp elt [⟨.Name x px, iter, [], 0⟩] scope gpos) X.env) :: starEach [] X.env := by rfl) :
    PE X (.Call (.Name "all" p) [.GeneratorExp elt [⟨.Name x px, iter, [], 0⟩] scope gpos] [] pos) (tAllG X.K P pb te) := by
  refine ⟨fun pins s σ H Q I h => ?_⟩
  refine wpAny_Call_Name_kw (ld_blt I hg hm boot_all ?_)
  refine PyProof.Rows.callWith_builtin1 ?_ he (by rfl)
  rw [he]
  show wpAny _ _ (spliced ((false, eval (.GeneratorExp elt [⟨.Name x px, iter, [], 0⟩] scope gpos) X.env) :: backTo pos (starEach [] X.env))) _ _ s
  refine Calls.spliced_cons (gen_tup (R := fun ns H1 => ∀ H2, TbOnly P H1 H2 → Q (.bl (ns.all pb)) H2) hr TB hcode S hi hel hs I h fun ns H1 g s5 hR hG => ?_)
  obtain ⟨fp, wr, G, cnt, St, ec, W, hst, _, hI⟩ := hG
  refine Calls.spliced_nil ?_
  refine call_all_walkS (W.self 0 _ _ _ hst ⟨g, fp, wr, G, _, _, St, (fun j => match ns[j]? with | some n => pb n | none => false), rfl, W, hst, fun j v s Q E hv hq => ?_, fun s' hmv => ?_⟩)
  · obtain ⟨n, hn, rfl⟩ := hv
    simp only [hn] at hq
    exact wpAny_truthy_bool hq
  · obtain ⟨H2, hT, J⟩ := hI s' hmv
    refine ⟨.bl _, H2, J, rfl, ?_⟩
    rw [ec, range_all]
    exact hR H2 hT
theorem pe_maxG {c P : Addr} {elt iter : Expr} {x : Str} {px p pos gpos : Pos} {scope : Scope} {fi : Int → Int} {te : TE} {k : Nat}
    (hr : Room k X.A) (hg : Gl X "max") (hm : X.mg "max" = none) (TB : LamX.TabB X.base X.mg c P) (hcode : X.env.code = .ref c) (S : GxR.GenS X.env scope x) (hi : PE X iter te) (hel : EltN X scope x elt (fun n y => ∃ t, y = .int (fi n) t))
    (hs : ∀ v, genFold iter X.env v = pure v)
    (he : starEach [.GeneratorExp elt [⟨.Name x px, iter, [], 0⟩] scope gpos] X.env = (false, eval (.GeneratorExp elt [⟨.Name x px, iter, [], 0⟩] scope gpos) X.env) :: starEach [] X.env := by rfl) :
    PE X (.Call (.Name "max" p) [.GeneratorExp elt [⟨.Name x px, iter, [], 0⟩] scope gpos] [] pos) (tMaxG X.K P fi te) := by
  refine ⟨fun pins s σ H Q I h => ?_⟩
  refine wpAny_Call_Name_kw (ld_blt I hg hm boot_max ?_)
  refine PyProof.Rows.callWith_builtin1 ?_ he (by rfl)
  rw [he]
  show wpAny _ _ (spliced ((false, eval (.GeneratorExp elt [⟨.Name x px, iter, [], 0⟩] scope gpos) X.env) :: backTo pos (starEach [] X.env))) _ _ s
  refine Calls.spliced_cons (gen_tup (R := fun ns H1 => 0 < ns.length ∧ ∀ H2 m, TbOnly P H1 H2 → m ∈ ns.map fi → (∀ y ∈ ns, fi y ≤ m) → Q (.int m) H2) hr TB hcode S hi hel hs I h fun ns H1 g s5 hR hG => ?_)
  obtain ⟨fp, wr, G, cnt, St, ec, W, hst, hfp, hI⟩ := hG
  subst ec
  obtain ⟨hne, hR⟩ := hR
  refine Calls.spliced_nil ?_
  have best := argBest_gt (fun j => fi (ns.getD j 0)) (ns.length - 1)
  refine call_max_walkS (W.self 0 _ _ _ hst ⟨g, fp, wr, G, _, _, St, (fun i j => decide (fi (ns.getD i 0) > fi (ns.getD j 0))), rfl, W, hst, hfp, hne, CmpOf.ints_gt (fun j => fi (ns.getD j 0)) (fun j v hv => ?_), fun v s' hv hmv => ?_⟩)
  · obtain ⟨n, hn, t, rfl⟩ := hv
    refine ⟨t, ?_⟩
    show _ = Value.int (fi (ns.getD j 0)) t
    rw [List.getD_eq_getElem?_getD, hn]
    rfl
  · obtain ⟨n, hn, t, rfl⟩ := hv
    obtain ⟨H2, hT, J⟩ := hI s' hmv
    refine ⟨.int (fi n), H2, J, ⟨t, rfl⟩, hR H2 _ hT (List.mem_map.mpr ⟨n, List.mem_of_getElem? hn, rfl⟩) fun y hy => ?_⟩
    obtain ⟨j, hj, e⟩ := List.getElem_of_mem hy
    have h9 := best.2 j (by omega)
    have e1 : ns.getD j 0 = y := by
      rw [List.getD_eq_getElem?_getD, List.getElem?_eq_getElem hj, e]
      rfl
    have e2 : ns.getD (argBest (fun i j => decide (fi (ns.getD i 0) > fi (ns.getD j 0))) (ns.length - 1)) 0 = n := by
      rw [List.getD_eq_getElem?_getD, hn]
      rfl
    have h10 : fi (ns.getD j 0) ≤ fi (ns.getD (argBest (fun i j => decide (fi (ns.getD i 0) > fi (ns.getD j 0))) (ns.length - 1)) 0) := h9
    rw [e1, e2] at h10
    exact h10
end
end Yw
end
section
set_option maxRecDepth 100000
set_option maxHeartbeats 4000000
namespace Yw
open PySem PySem.Spec PyProof.Rows L2 HT
/-! ### the elements: abs(a); is_in(one, 0 - MOST_PAYMENT, MOST_PAYMENT) -/
section
variable {M : Model} {A : Around} {E : Value → Shared → Prop} {s : Shared} {env : Env} {mg : Str → Option Value} {base : Heap}
/-- a local name -/
theorem nm_loc {x : Str} {p : Pos} {m : Str → Option Value} {v : Value} {Q : Value → Shared → Prop} (hk : env.scope.kind = .function) (hl : env.scope.names.lookup x = some .local) (hn : s.heap.Ns env.locals m) (hm : m x = some v) (h : Q v s)
    (hd : (x == ("__debug__" : Str)) = false := by decide) : wpAny M A (eval (.Name x p) env) Q E s := wpAny_Name (wpAny_loadName_local hk hl hn hm h) hd
/-- a name of the module -/
theorem nm_glob {x : Str} {p : Pos} {v : Value} {Q : Value → Shared → Prop} (hk : env.scope.kind = .function) (hx : env.kindOf x = some .globalImplicit) (hn : s.heap.Ns env.globals mg) (hm : mg x = some v) (h : Q v s)
    (hd : (x == ("__debug__" : Str)) = false := by decide) : wpAny M A (eval (.Name x p) env) Q E s := Calls.Name_function_global hk hx (Calls.loadGlobal_global hn hm h) hd
/-- a built-in name -/
theorem nm_blt {x : Str} {p : Pos} {v : Value} {Q : Value → Shared → Prop} {mb : Str → Option Value} (hk : env.scope.kind = .function) (hx : env.kindOf x = some .globalImplicit) (hn : s.heap.Ns env.globals mg) (hm : mg x = none) (hb : s.heap.Ns env.builtins mb) (hv : mb x = some v) (h : Q v s)
    (hd : (x == ("__debug__" : Str)) = false := by decide) : wpAny M A (eval (.Name x p) env) Q E s := Calls.Name_function_global hk hx (Calls.loadGlobal_builtin hn hm hb hv h) hd
end
theorem keeps_tok (s : Shared) (k : Nat) : Keeps s { s with toks := k } := ⟨s.heap, k, rfl, fun _ _ e => e⟩
theorem keeps_trans {s s1 s2 : Shared} (h : Keeps s s1) (k : Keeps s1 s2) : Keeps s s2 := by
  obtain ⟨h1, t1, e1, k1⟩ := h
  obtain ⟨h2, t2, e2, k2⟩ := k
  subst e1
  exact ⟨h2, t2, e2, fun b o e => k2 b o (k1 b o e)⟩
theorem elt_abs {X : Cx} {scope : Scope} {a : Str} {p1 p2 pos : Pos} (hk : scope.kind = .function) (hl : scope.names.lookup a = some .local) (hg : scope.names.lookup ("abs" : Str) = some .globalImplicit) (hm : X.mg ("abs" : Str) = none) (hd : (a == ("__debug__" : Str)) = false := by decide) :
    EltN X scope a (.Call (.Name "abs" p1) [.Name a p2] [] pos) (fun n y => ∃ t, y = .int (if n < 0 then -n else n) t) := by
  intro M0 cenv A' E' n t s2 m2 hs hgl hbl hA hD hU hb hn hv
  obtain ⟨mb, b1, b2⟩ := M0.blt
  refine wpAny_Call_Name_kw (nm_blt (mg := X.mg) (mb := mb) (by rw [hs]; exact hk) (show cenv.scope.names.lookup ("abs" : Str) = _ by rw [hs]; exact hg) (by rw [hgl]; exact M0.glob.keeps hb) hm (by rw [hbl]; exact b1.keeps hb) ((b2 _ (by decide)).trans boot_abs) ?_)
  refine PyProof.Rows.callWith_builtin1 ?_ (by rfl) (by rfl)
  show wpAny _ _ (spliced ((false, eval (.Name a p2) cenv) :: backTo pos (starEach [] cenv))) _ _ s2
  refine Calls.spliced_cons (nm_loc (by rw [hs]; exact hk) (show cenv.scope.names.lookup a = _ by rw [hs]; exact hl) hn hv ?_ hd)
  refine Calls.spliced_nil (call_abs_int fun u tk => ⟨⟨_, rfl⟩, keeps_tok _ _⟩)
/-- the body of is_in, at ints -/
theorem isin_run {P : Program} {w : World} {K : PySem.W.Frag} {mg : Str → Option Value} {base : Heap} {f : Addr} {fd : FuncData} (F : L2.Fun K "is_in" "is_in" sIsIn f fd) (M0 : Mod K mg base) (m1 : mg "isinstance" = none) (m2 : mg "int" = none) (m3 : mg "bool" = none)
    {A : Around} {s : Shared} {n lo hi : Int} {t1 t2 t3 : Tok} (hb : ∀ b o, base.get? b = some o → s.heap.get? b = some o) (hd : A.depth < recursionLimit) :
    codeAny (model P w) A (.call (.ref f) ⟨[.int n t1, .int lo t2, .int hi t3], []⟩) (fun r s' => r = .ok (.ret (.bool (decide (lo ≤ n) && decide (n ≤ hi)))) ∧ Keeps s s') s := by
  obtain ⟨oc, od, kV, doc, pm, an, cdv, ct, osl, rfl, lk, hcd⟩ := F.ex
  refine Att.call_fn (binds := [("value", .int n t1), ("least", .int lo t2), ("most", .int hi t3)]) (M0.kin.keeps hb) (M0.nolimit.keeps hb) lk hcd hd (BindsTo.of_eq (by rfl)) (by rfl) (fun s1 IC => ?_) rfl rfl rfl
  obtain ⟨h1, tk1, rfl⟩ := IC.toInCall.same
  have k1 := IC.toInCall.keep
  have hn := IC.toInCall.ns
  have hb1 : ∀ b o, base.get? b = some o → h1.get? b = some o := fun b o e => k1 b o (hb b o e)
  obtain ⟨mb, b1, b2⟩ := M0.blt
  have st : ∀ tk, Keeps s { s with heap := h1, toks := tk } := fun tk => ⟨h1, tk, rfl, k1⟩
  -- isinstance(value, T)
  have isi : ∀ (T : String) (x : Str) (p1 p2 p3 p4 : Pos) (tk : Nat) (b : Bool) (Q : Value → Shared → Prop) (E : Value → Shared → Prop), (envOfC "is_in" (defScope sIsIn) s.heap.objs.size f cdv).kindOf x = some .globalImplicit → mg x = none → x ≠ "__name__" → (x == ("__debug__" : Str)) = false → bootBuiltins x = some (.type T) →
      (∀ (A' : Around) (Q' : Value → Shared → Prop) (tk : Nat), (∀ tk', Q' (.bool b) { s with heap := h1, toks := tk' }) → wpAny (model P w) A' (call (.builtin "isinstance") [.int n t1, .type T]) Q' E { s with heap := h1, toks := tk }) →
      (∀ tk', Q (.bool b) { s with heap := h1, toks := tk' }) →
      wpAny (model P w) (A.deeper (envOfC "is_in" (defScope sIsIn) s.heap.objs.size f cdv)) (eval (.Call (.Name "isinstance" p1) [.Name "value" p2, .Name x p3] [] p4) (envOfC "is_in" (defScope sIsIn) s.heap.objs.size f cdv)) Q E { s with heap := h1, toks := tk } := by
    intro T x p1 p2 p3 p4 tk b Q E hx hmx hnx hdx hbx hcall hQ
    refine wpAny_Call_Name_kw (nm_blt (mg := mg) (mb := mb) rfl (by rfl) (M0.glob.keeps hb1) m1 (b1.keeps hb1) ((b2 _ (by decide)).trans boot_isinstance) ?_)
    refine PyProof.Rows.callWith_builtin1 ?_ (by rfl) (by rfl)
    show wpAny _ _ (spliced ((false, eval (.Name "value" p2) _) :: backTo p4 (starEach [.Name x p3] _))) _ _ _
    refine Calls.spliced_cons (nm_loc (v := .int n t1) rfl (by rfl) hn (by rfl) ?_)
    show wpAny _ _ (spliced ((false, eval (.Name x p3) _) :: backTo p4 (starEach [] _))) _ _ _
    refine Calls.spliced_cons (nm_blt (mg := mg) (mb := mb) rfl hx (M0.glob.keeps hb1) hmx (b1.keeps hb1) ((b2 _ hnx).trans hbx) ?_ hdx)
    exact Calls.spliced_nil (hcall _ _ _ hQ)
  show wpAny _ _ (execs [.Return (some (.BoolOp .And [.Call (.Name "isinstance" _) [.Name "value" _, .Name "int" _] [] _, .UnaryOp .Not (.Call (.Name "isinstance" _) [.Name "value" _, .Name "bool" _] [] _) _, .Compare (.Name "least" _) [.LtE, .LtE] [.Name "value" _, .Name "most" _] _] _)) _] _) _ _ _
  refine wpAny_execs_cons (wpAny_Return_some ?_)
  refine BoolOp_and (isi "int" "int" _ _ _ _ _ true _ _ (by rfl) m2 (by decide) (by decide) boot_int (fun A' Q' tk hq => PySem.W.isinstance_int_data (.int n t1) fun tk' _ => hq tk') fun tk' => wpAny_truthy_bool ?_)
  show wpAny _ _ (eval _ _) _ _ _
  refine BoolOp_and (UnaryOp_ (isi "bool" "bool" _ _ _ _ _ false _ _ (by rfl) m3 (by decide) (by decide) boot_bool (fun A' Q' tk hq => PySem.W.isinstance_bool_data (.int n t1) fun tk' _ => hq tk') fun tk' => not_of (wpAny_truthy_bool (wpAny_truthy_bool ?_))))
  show wpAny _ _ (eval _ _) _ _ _
  refine BoolOp_one (Compare_chain (nm_loc (v := .int lo t2) rfl (by rfl) hn (by rfl) ?_))
  refine chain_link (nm_loc (v := .int n t1) rfl (by rfl) hn (by rfl) (le_int (wpAny_truthy_bool ?_)))
  by_cases c : lo ≤ n
  · rw [decide_eq_true c, if_pos rfl]
    refine chain_last (nm_loc (v := .int hi t3) rfl (by rfl) hn (by rfl) (le_int ⟨?_, st _⟩))
    rw [Bool.true_and]
  · rw [decide_eq_false c, if_neg Bool.false_ne_true]
    exact ⟨rfl, st _⟩
end Yw
end
section
set_option maxRecDepth 100000
set_option maxHeartbeats 4000000
namespace Yw
open PySem PySem.Spec PyProof.Rows L2 HT
/-- what the top has left by names -/
structure Txt (mg : Str → Option Value) : Prop where
  isinstance : mg "isinstance" = none
  int : mg "int" = none
  bool : mg "bool" = none
  tuple : mg "tuple" = none
  list : mg "list" = none
  len : mg "len" = none
  all : mg "all" = none
  any : mg "any" = none
  max : mg "max" = none
  abs : mg "abs" = none
  range : mg "range" = none
  enumerate : mg "enumerate" = none
  gcd : mg "gcd" = some (.builtin "math.gcd")
  mostP : ∃ t, mg "MOST_PAYMENTS" = some (.int 40 t)
  mostV : ∃ t, mg "MOST_PAYMENT" = some (.int 1000000 t)
  mostL : ∃ t, mg "MOST_PLACES" = some (.int 8 t)
theorem sameU {H : Hp} {p : Addr} {o : HO} (h : H p = none) : Same H (upd H p o) := fun b x e => by
  rw [upd_ne (ne_of_none e h)]
  exact e
section
variable {P : Program} {w : World} {K : PySem.W.Frag} {mg : Str → Option Value} {base : Heap}
/-! ### ratio -/
theorem scRatio : FnScope ["top", "bottom", "common"] ["top", "bottom"] (defScope sRatio) := ⟨rfl, rfl, rfl, by decide +kernel, rfl, by decide +kernel, by decide +kernel⟩
def spRatio : Sp := fun vs H Q _ => ∃ t b : Int, vs = [.int t, .int b] ∧ 0 < t ∧ 0 < b ∧ t < 1073741824 ∧ ∀ H' p, Same H H' → H' p = some (.tup [.int (Yk.rtop t b), .int (Yk.rbot t b)]) → Q (.ref p) H'
theorem ok_ratio {f : Addr} {fd : FuncData} {k : Nat} (F : L2.Fun K "ratio" "ratio" sRatio f fd) (T : Txt mg) : FnOk P w K mg base CX0 (k + 1) f fd ["top", "bottom"] spRatio := by
  refine F.ok scRatio (fun vs H Q E h => ?_) (fun cdv A outer s H vs Q E hr h => ?_)
  · obtain ⟨t, b, rfl, _⟩ := h
    rfl
  · obtain ⟨t, b, rfl, ht, hb, htb, q⟩ := h
    refine ⟨_, pss_cons (ps_set (i := 2) scRatio.nd rfl (.inl rfl) (pe_ifExp (pt_cmpR op_gt (pv 1) pe_int (nomark _)) (pe_callBfun cr_gcd (by rfl) T.gcd (pa_cons (pv 0) (pa_cons (pv 1) pa_nil)))
        (pe_op op_sub pe_int (pe_callBfun cr_gcd (by rfl) T.gcd (pa_cons (pv 0) (pa_cons (pv 1) pa_nil))))))
      (pss_one (ps_ret (pe_tup (pa_cons (pe_op op_fdiv (pv 0) (pv 2)) (pa_cons (pe_op op_fdiv (pv 1) (pv 2)) pa_nil))))), ?_⟩
    refine ⟨_, rfl, b, 0, rfl, rfl, _, rfl, ?_⟩
    rw [decide_eq_true (show (0 : Int) < b from hb)]
    refine iteT ⟨_, rfl, _, rfl, t, b, rfl, ?_⟩
    have hg : 0 < (Nat.gcd t.natAbs b.natAbs : Int) := by
      have := Nat.gcd_pos_of_pos_left b.natAbs (show 0 < t.natAbs by omega)
      omega
    have hg2 : (Nat.gcd t.natAbs b.natAbs : Int) < 1073741824 := by
      have := Nat.gcd_le_left b.natAbs (show 0 < t.natAbs by omega)
      omega
    refine ⟨_, rfl, _, rfl, t, _, rfl, rfl, ⟨hg, hg2⟩, _, rfl, _, rfl, b, _, rfl, rfl, ⟨hg, hg2⟩, (by show 2 ≤ sizeLine; decide), fun p hp => ?_⟩
    exact q _ p (sameU hp) upd_same
/-! ### is_in -/
theorem scIsIn : FnScope ["value", "least", "most"] ["value", "least", "most"] (defScope sIsIn) := ⟨rfl, rfl, rfl, by decide +kernel, rfl, by decide +kernel, by decide +kernel⟩
def spIsIn : Sp := fun vs H Q _ => ∃ n lo hi : Int, vs = [.int n, .int lo, .int hi] ∧ Q (.bl (decide (lo ≤ n) && decide (n ≤ hi))) H
theorem ok_isin {f : Addr} {fd : FuncData} {k : Nat} (F : L2.Fun K "is_in" "is_in" sIsIn f fd) (T : Txt mg) : FnOk P w K mg base CX0 (k + 1) f fd ["value", "least", "most"] spIsIn := by
  refine F.ok scIsIn (fun vs H Q E h => ?_) (fun cdv A outer s H vs Q E hr h => ?_)
  · obtain ⟨n, lo, hi, rfl, _⟩ := h
    rfl
  · obtain ⟨n, lo, hi, rfl, q⟩ := h
    refine ⟨_, pss_one (ps_ret (pe_and (pe_callB call_isi (by rfl) T.isinstance boot_isinstance (pa_cons (pv 0) (pa_cons (pe_bltn (by rfl) T.int boot_int (v := .ty "int") rfl) pa_nil)))
      (pe_and (pe_not (pe_callB call_isi (by rfl) T.isinstance boot_isinstance (pa_cons (pv 0) (pa_cons (pe_bltn (by rfl) T.bool boot_bool (v := .ty "bool") rfl) pa_nil))))
        (pe_one (pe_chain op_le op_le (pv 1) (pv 0) (pv 2)))))), ?_⟩
    refine ⟨_, rfl, .int n, .ty "int", .type "int", .type "int", true, rfl, .ty _, .base (.int n), kit_ty (by decide +kernel), true, rfl, iteT ?_⟩
    refine ⟨_, rfl, .int n, .ty "bool", .type "int", .type "bool", false, rfl, .ty _, .base (.int n), kit_ty (by decide +kernel), false, rfl, true, rfl, iteT ?_⟩
    refine ⟨_, rfl, _, rfl, lo, n, rfl, rfl, _, rfl, ?_⟩
    by_cases c : lo ≤ n
    · rw [decide_eq_true c] at q ⊢
      rw [Bool.true_and] at q
      exact iteT ⟨_, rfl, n, hi, rfl, rfl, q⟩
    · rw [decide_eq_false c] at q ⊢
      exact iteF q
/-! ### need_time -/
theorem scNeedT : FnScope ["time", "least", "most"] ["time", "least", "most"] (defScope sNeedT) := ⟨rfl, rfl, rfl, by decide +kernel, rfl, by decide +kernel, by decide +kernel⟩
def spNeedT : Sp := fun vs H Q _ => ∃ n lo hi : Int, vs = [.int n, .int lo, .int hi] ∧ lo ≤ n ∧ n ≤ hi ∧ Q .non H
theorem ok_needT {f g : Addr} {fd gd : FuncData} {k : Nat} (F : L2.Fun K "need_time" "need_time" sNeedT f fd) (G : L2.Fun K "is_in" "is_in" sIsIn g gd) (bG : Binds K gd ["value", "least", "most"] []) (mG : mg "is_in" = some (.ref g)) (T : Txt mg) :
    FnOk P w K mg base CX0 (k + 2) f fd ["time", "least", "most"] spNeedT := by
  refine F.ok scNeedT (fun vs H Q E h => ?_) (fun cdv A outer s H vs Q E hr h => ?_)
  · obtain ⟨n, lo, hi, rfl, _⟩ := h
    rfl
  · obtain ⟨n, lo, hi, rfl, h1, h2, q⟩ := h
    refine ⟨_, pss_one (ps_if (pt_not (pt_val (pe_call (ok_isin (k := k) G T) hr (by rfl) mG G.kp bG .nil pass0 (pa_cons (pv 0) (pa_cons (pv 1) (pa_cons (pv 2) pa_nil)))))) (pss_one ps_never) pss_nil), ?_⟩
    refine ⟨_, rfl, _, rfl, _, rfl, n, lo, hi, rfl, _, rfl, ?_⟩
    rw [decide_eq_true h1, decide_eq_true h2]
    exact iteF q
end
end Yw
end
section
set_option maxRecDepth 100000
set_option maxHeartbeats 4000000
namespace Yw
open PySem PySem.Spec PyProof.Rows L2 HT
/-! ### a sequence of ints: list or tuple -/
theorem sameT {K : PySem.W.Frag} {H H' : Hp} {a : Addr} {xs : List V} (e : Same H H') (h : SqT K H a xs) : SqT K H' a xs := by
  rcases h with (h | ⟨o, h⟩) | h
  · exact .inl (.inl (e _ _ h))
  · exact .inl (.inr ⟨o, e _ _ h⟩)
  · exact .inr h
/-- list or tuple -/
def SqA (K : PySem.W.Frag) (H : Hp) (a : Addr) (xs : List V) : Prop := SqL K H a xs ∨ SqT K H a xs
theorem sameA {K : PySem.W.Frag} {H H' : Hp} {a : Addr} {xs : List V} (e : Same H H') (h : SqA K H a xs) : SqA K H' a xs := h.imp e.seq (sameT e)
theorem SqA.l {K : PySem.W.Frag} {H : Hp} {a : Addr} {xs : List V} (h : H a = some (.lst xs)) : SqA K H a xs := .inl (SqL.of h)
theorem SqA.t {K : PySem.W.Frag} {H : Hp} {a : Addr} {xs : List V} (h : H a = some (.tup xs)) : SqA K H a xs := .inr (SqT.of h)
abbrev iv (l : List Int) : List V := l.map V.int
theorem same_up {H H' : Hp} {p : Addr} {o : HO} (s : Same H H') (h : H p = none) : Same H (upd H' p o) := fun b x e => by
  rw [upd_ne (ne_of_none e h)]
  exact s b x e
/-! ### what a walk yields -/
def Yl (J : It) (P : Hp → Prop) (n : Nat) (R : Nat → V → Hp → Prop) : Prop := ∀ H', P H' → (∀ i, i < n → J.go i H' ∧ ∀ x H2, J.yld i H' x H2 → Same H' H2 ∧ R i x H2) ∧ J.stop n H'
section
variable {K : PySem.W.Frag} {a : Addr} {xs : List V} {P : Hp → Prop}
theorem yl_list (h : ∀ H, P H → SqL K H a xs) : Yl (Itl K a) P xs.length (fun i x _ => xs[i]? = some x) := fun H' p =>
  ⟨fun i hi => ⟨⟨xs, xs[i], h _ p, List.getElem?_eq_getElem hi⟩, fun x H2 y => by
    obtain ⟨e, y⟩ := y
    subst e
    exact ⟨Same.refl _, y xs (h _ p)⟩⟩, ⟨xs, h _ p, Nat.le_refl _⟩⟩
theorem yl_tup (h : ∀ H, P H → SqT K H a xs) : Yl (Itt K a) P xs.length (fun i x _ => xs[i]? = some x) := fun H' p =>
  ⟨fun i hi => ⟨⟨xs, xs[i], h _ p, List.getElem?_eq_getElem hi⟩, fun x H2 y => by
    obtain ⟨e, y⟩ := y
    subst e
    exact ⟨Same.refl _, y xs (h _ p)⟩⟩, ⟨xs, h _ p, Nat.le_refl _⟩⟩
theorem yl_range (lo : Int) (n : Nat) : Yl (Itr lo n) P n (fun i x _ => x = .int (lo + i)) := fun H' _ =>
  ⟨fun i hi => ⟨hi, fun x H2 y => by
    obtain ⟨e, y⟩ := y
    subst e
    exact ⟨Same.refl _, y⟩⟩, Nat.le_refl _⟩
theorem yl_rangeC (lo c : Int) (n : Nat) : Yl (Itc lo c n) P n (fun i x _ => x = .int (lo + (i : Nat) * c)) := fun H' _ =>
  ⟨fun i hi => ⟨hi, fun x H2 y => by
    obtain ⟨e, y⟩ := y
    subst e
    exact ⟨Same.refl _, y⟩⟩, Nat.le_refl _⟩
theorem yl_enum (h : ∀ H, P H → SqT K H a xs) : Yl (IteT K a) P xs.length (fun i x H2 => ∃ T v, x = .ref T ∧ H2 T = some (.tup [.int (i : Nat), v]) ∧ xs[i]? = some v) := fun H' p =>
  ⟨fun i hi => ⟨⟨xs, xs[i], h _ p, List.getElem?_eq_getElem hi⟩, fun x H2 y => by
    obtain ⟨T, v, rfl, hT, rfl, hx⟩ := y
    exact ⟨sameU hT, T, v, rfl, upd_same, hx xs (h _ p)⟩⟩, ⟨xs, h _ p, rfl⟩⟩
end
theorem for_y {J : It} {P : Hp → Prop} {n : Nat} {R : Nat → V → Hp → Prop} {g : TG} {tb : TS} {D : Ends} {σ : L2.St} {H : Hp} (hJ : Yl J P n R) (Pv : Nat → L2.St → Hp → Prop) (h0 : Pv 0 σ H) (hp : ∀ i σ H', Pv i σ H' → P H')
    (hs : ∀ i x σ' H' H2, i < n → Pv i σ' H' → Same H' H2 → R i x H2 → g x σ' H2 fun σ2 H3 => tb { D with nx := Pv (i + 1), ct := Pv (i + 1), bk := D.nx } σ2 H3) (hd : ∀ σ' H', Pv n σ' H' → D.nx σ' H') :
    ∃ W : Nat → Nat → L2.St → Hp → Prop, (∃ m, W 0 m σ H) ∧ ∀ i m σ H, W i m σ H →
      (J.stop i H ∧ D.nx σ H) ∨ (J.go i H ∧ ∃ N : L2.St → Hp → Prop, (∀ σ' H', N σ' H' → ∃ m', m' < m ∧ W (i + 1) m' σ' H') ∧ ∀ x H', J.yld i H x H' → g x σ H' fun σ2 H2 => tb { D with nx := N, ct := N, bk := D.nx } σ2 H2) := by
  refine ⟨fun i m σ H => i + m = n ∧ Pv i σ H, ⟨n, Nat.zero_add n, h0⟩, fun i m σ H hW => ?_⟩
  obtain ⟨em, p⟩ := hW
  obtain ⟨h1, h2⟩ := hJ H (hp i σ H p)
  by_cases c : i < n
  · obtain ⟨g1, g2⟩ := h1 i c
    refine .inr ⟨g1, Pv (i + 1), fun σ' H' p' => ⟨m - 1, by omega, by omega, p'⟩, fun x H' y => ?_⟩
    obtain ⟨s1, r1⟩ := g2 x H' y
    exact hs i x σ H H' c p s1 r1
  · have e : i = n := by omega
    subst e
    exact .inl ⟨h2, hd σ H p⟩
/-- the list that is being made -/
def Ny (H1 : Hp) (D : Addr) (l : List V) : Hp → Prop := fun H' => Same H1 H' ∧ H' D = some (.lst l)
theorem ny_app {H1 H4 : Hp} {D : Addr} {l l' : List V} {y : V} (hD : H1 D = none) (h : Ny H1 D l H4) (hl : l.length < sizeLine) (e : l' = l ++ [y]) :
    ∃ acc, H4 D = some (.lst acc) ∧ acc.length < sizeLine ∧ Ny H1 D l' (upd H4 D (.lst (acc ++ [y]))) := ⟨l, h.2, hl, same_up h.1 hD, by rw [upd_same, e]⟩
theorem lc_y {J : It} {n : Nat} {R : Nat → V → Hp → Prop} {g : TG} {tt : TT} {te : TE} {vs : List Nat} {σ : L2.St} {H1 : Hp} {D : Addr} {Qd : Hp → Prop} (hD : H1 D = none) (hJ : Yl J (fun H' => Same H1 H') n R) (acc : Nat → List V) (e0 : acc 0 = [])
    (hs : ∀ i x H' H'', i < n → Ny H1 D (acc i) H' → Same H' H'' → R i x H'' → Ny H1 D (acc i) H'' → g x (wipe σ vs) H'' fun σ2 H2 => wipe σ2 vs = wipe σ vs ∧ tt σ2 H2 fun b H3 =>
      if b = true then te σ2 H3 fun y H4 => ∃ ac, H4 D = some (.lst ac) ∧ ac.length < sizeLine ∧ Ny H1 D (acc (i + 1)) (upd H4 D (.lst (ac ++ [y]))) else Ny H1 D (acc (i + 1)) H3) (hd : ∀ H', Ny H1 D (acc n) H' → Qd H') :
    ∃ W : Nat → Nat → Hp → Prop, (∃ m, W 0 m (upd H1 D (.lst []))) ∧ ∀ i m H, W i m H →
      (J.stop i H ∧ Qd H) ∨ (J.go i H ∧ ∃ Nx : Hp → Prop, (∀ H', Nx H' → ∃ m', m' < m ∧ W (i + 1) m' H') ∧ ∀ x H', J.yld i H x H' → g x (wipe σ vs) H' fun σ2 H2 => wipe σ2 vs = wipe σ vs ∧ tt σ2 H2 fun b H3 =>
        if b = true then te σ2 H3 fun y H4 => ∃ acc, H4 D = some (.lst acc) ∧ acc.length < sizeLine ∧ Nx (upd H4 D (.lst (acc ++ [y]))) else Nx H3) := by
  refine ⟨fun i m H => i + m = n ∧ Ny H1 D (acc i) H, ⟨n, Nat.zero_add n, sameU hD, by rw [upd_same, e0]⟩, fun i m H hW => ?_⟩
  obtain ⟨em, p⟩ := hW
  obtain ⟨h1, h2⟩ := hJ H p.1
  by_cases c : i < n
  · obtain ⟨g1, g2⟩ := h1 i c
    refine .inr ⟨g1, Ny H1 D (acc (i + 1)), fun H' p' => ⟨m - 1, by omega, by omega, p'⟩, fun x H' y => ?_⟩
    obtain ⟨s1, r1⟩ := g2 x H' y
    exact hs i x H H' c p s1 r1 ⟨p.1.trans s1, s1 _ _ p.2⟩
  · have e : i = n := by omega
    subst e
    exact .inl ⟨h2, hd H p⟩
/-! ### for over a list or a tuple -/
def iSeq (K : PySem.W.Frag) (tl : TE) : TI := fun σ H R => tl σ H fun x H1 => ∃ a, x = .ref a ∧ (((∃ xs, SqL K H1 a xs) ∧ R (Itl K a) H1) ∨ ((∃ xs, SqT K H1 a xs) ∧ R (Itt K a) H1))
theorem pi_seq {X : Cx} {tg l : Expr} {tl : TE} (hl : PE X l tl) : PI X tg l (iSeq X.K tl) := by
  refine ⟨fun pins s σ H R I h => ?_⟩
  refine thn (hl.run pins s σ H _ I h) fun v s1 ⟨x, H1, I1, r1, q1⟩ => ?_
  obtain ⟨a, e, q⟩ := q1
  subst e
  cases r1
  have fp : ∀ b ∈ [s1.heap.objs.size], FpOk X pins H1 b := fun b hb => by
    have e : b = s1.heap.objs.size := by simpa using hb
    subst e
    exact I1.fpOk (Nat.le_refl _) (I1.hok.fresh (Nat.le_refl _))
  rcases q with ⟨⟨xs, hq⟩, q⟩ | ⟨⟨xs, hq⟩, q⟩
  · obtain ⟨its, rv, p, hz⟩ := I1.list hq
    refine wpAny_pyIter_list p.isList ?_
    exact ⟨s1.heap.objs.size, [s1.heap.objs.size], _, _, H1, rfl, I1.kept (t' := s1.toks) fun b o e => Heap.get?_push_of_some _ e, turn_list a _, ⟨_, Heap.get?_push_size _ rfl, rfl, rfl⟩, fp, q⟩
  · obtain ⟨its, rv, p, hz⟩ := I1.tuple hq
    refine wpAny_pyIter_tuple (show s1.heap.IsTuple a its.toArray from p) ?_
    exact ⟨s1.heap.objs.size, [s1.heap.objs.size], _, _, H1, rfl, I1.kept (t' := s1.toks) fun b o e => Heap.get?_push_of_some _ e, turn_tuple a _, ⟨_, Heap.get?_push_size _ rfl, rfl, rfl⟩, fp, q⟩
/-! ### // within a def -/
structure Gd (P : Program) (base : Heap) : Prop where
  seer : base.NoSeer
  tree : P.given.tree = none
theorem pyl_of {CX : CXT} {P : Program} {w : World} {K : PySem.W.Frag} {mg : Str → Option Value} {base : Heap} {N : List Str} {q : Str} {sc : Scope} {f : Addr} {cd : Value} {A : Around} {outer : List Env} {s : Shared} {H : Hp} {E : XK} {k : Nat}
    (g : Gd P base) (hr : Room (k + 34) (A.deeper (envOfC q sc s.heap.objs.size f cd))) (h1 : sc.isGenerator = false) (h2 : sc.isCoroutine = false) : Pyl (cxOf CX P w K mg base N q sc f cd A outer s H E) := by
  refine ⟨g.seer, g.tree, ?_, ⟨_, _, rfl, h1, h2, rfl, rfl⟩⟩
  have := hr.dp
  show (A.deeper (envOfC q sc s.heap.objs.size f cd)).depth + 100 < recursionLimit
  omega
end Yw
end
section
set_option maxRecDepth 100000
set_option maxHeartbeats 4000000
namespace Yw
open PySem PySem.Spec PyProof.Rows L2 HT
section
variable {P : Program} {w : World} {K : PySem.W.Frag} {mg : Str → Option Value} {base : Heap}
/-! ### trimmed -/
theorem snoc_of {α : Type} : ∀ {l : List α}, l ≠ [] → ∃ m b, l = m ++ [b] := fun {l} h => ⟨l.dropLast, l.getLast h, (List.dropLast_concat_getLast h).symm⟩
theorem iv_snoc (l : List Int) (b : Int) : iv (l ++ [b]) = iv l ++ [V.int b] := by simp
theorem trim_snoc_ne (l : List Int) {b : Int} (h : b ≠ 0) : Yk.trim (l ++ [b]) = l ++ [b] := Yk.trim_of_lead (by rw [Yk.lead_append_singleton]; exact h)
theorem scTrim : FnScope ["some", "found"] ["some"] (defScope sTrim) := ⟨rfl, rfl, rfl, by decide +kernel, rfl, by decide +kernel, by decide +kernel⟩
def spTrim (K : PySem.W.Frag) : Sp := fun vs H Q _ => ∃ (a : Addr) (xs : List Int), vs = [.ref a] ∧ SqA K H a (iv xs) ∧ ∀ H' p, Same H H' → H p = none → H' p = some (.tup (iv (Yk.trim xs))) → Q (.ref p) H'
theorem ok_trim {f : Addr} {fd : FuncData} {k : Nat} (F : L2.Fun K "trimmed" "trimmed" sTrim f fd) (T : Txt mg) : FnOk P w K mg base CX0 (k + 1) f fd ["some"] (spTrim K) := by
  refine F.ok scTrim (fun vs H Q E h => ?_) (fun cdv A outer s H vs Q E hr h => ?_)
  · obtain ⟨a, xs, rfl, _⟩ := h
    rfl
  · obtain ⟨a, xs, rfl, hA, q⟩ := h
    refine ⟨_, pss_cons (ps_set (i := 1) scTrim.nd rfl (.inl rfl) (pe_callTy call_list_of (by rfl) T.list boot_list (pa_cons (pv 0) pa_nil)))
      (pss_cons (ps_while PassesOwn.never (pw_and (pt_truth (pv 1) (fun _ => rfl)) (pw_and1 (pt_cmpR op_eq (pe_ix ix_list (pv 1) (pe_un un_neg pe_int) (fun _ _ => rfl)) pe_int (nomark _)))).pt
        (pss_one (ps_expr (pe_bm0 PySem.F.plainAttrs_list PySem.F.slot_list_pop PySem.F.type_list_pop mt_pop (pv 1)))))
      (pss_one (ps_ret (pe_callTy call_tuple_of (by rfl) T.tuple boot_tuple (pa_cons (pv 1) pa_nil))))), ?_⟩
    refine ⟨_, rfl, a, iv xs, rfl, hA, fun o no => ?_⟩
    refine ⟨fun m σ H' => ∃ l : List Int, σ = [some (.ref a), some (.ref o)] ∧ l.length = m ∧ Same H H' ∧ H' o = some (.lst (iv l)) ∧ Yk.trim l = Yk.trim xs, ⟨_, xs, rfl, rfl, sameU no, upd_same, rfl⟩, ?_⟩
    rintro m σ H1 ⟨l, rfl, em, sm, eo, et⟩
    have fin : Yk.trim l = l → ∀ {Q' : V → Hp → Prop}, (∀ p, H1 p = none → Q' (.ref p) (upd H1 p (.tup (iv (Yk.trim xs))))) → tRet (tCB (fun xs H Q => ∃ p ys, xs = [.ref p] ∧ ((SqL K H p ys ∧ ∀ l, H l = none → Q (.ref l) (upd H l (.tup ys))) ∨ (SqT K H p ys ∧ Q (.ref p) H))) (tCons (tVar 1) tNil)) { nx := fun _ H' => Q .non H', rt := Q' } [some (.ref a), some (.ref o)] H1 := fun e Q' q' =>
      ⟨_, rfl, o, iv l, rfl, .inl ⟨SqL.of eo, fun p np => by
        have := q' p np
        rw [← et, e] at this
        exact this⟩⟩
    have q' : ∀ p, H1 p = none → Q (.ref p) (upd H1 p (.tup (iv (Yk.trim xs)))) := fun p np => q _ p (same_up sm (sm.free np)) (sm.free np) upd_same
    refine ⟨_, rfl, !(iv l).isEmpty, .inl ⟨iv l, SqL.of eo, rfl⟩, ?_⟩
    by_cases hl : l = []
    · subst hl
      exact iteF (iteF (fin rfl q'))
    · obtain ⟨m', b, rfl⟩ := snoc_of hl
      have e1 : (!(iv (m' ++ [b])).isEmpty) = true := by
        rw [iv_snoc]
        cases m' <;> rfl
      rw [e1]
      refine iteT ⟨_, rfl, 1, rfl, o, _, -1, .int b, rfl, rfl, SqL.of eo, by rw [iv_snoc]; exact atI_last _ _, rfl, _, rfl, ?_⟩
      refine ite2 (fun hb => ?_) (fun hb => ?_)
      · have hb0 : b = 0 := V.int.inj (of_decide_eq_true hb)
        subst hb0
        refine ⟨_, fun σ' H' (h : ∃ l, σ' = [some (.ref a), some (.ref o)] ∧ l.length = m'.length ∧ Same H H' ∧ H' o = some (.lst (iv l)) ∧ Yk.trim l = Yk.trim xs) => ⟨m'.length, by rw [← em, List.length_append]; exact Nat.lt_succ_self _, h⟩, ?_⟩
        refine ⟨_, rfl, .inl ⟨rfl, _, SqL.of eo⟩, o, _, .int 0, rfl, rfl, eo, ?_, m', rfl, rfl, same_up sm no, ?_, ?_⟩
        · rw [iv_snoc]
          simp
        · rw [upd_same, iv_snoc, List.dropLast_concat]
        · rw [← et, Yk.trim_snoc_zero]
      · have hb0 : b ≠ 0 := fun e => hb (decide_eq_true (by rw [e]))
        exact fin (trim_snoc_ne m' hb0) q'
end
end Yw
end
section
set_option maxRecDepth 100000
set_option maxHeartbeats 4000000
namespace Yw
open PySem PySem.Spec PyProof.Rows L2 HT
/-- a def of the text, as the top has left it -/
structure Df (K : PySem.W.Frag) (mg : Str → Option Value) (x : Str) (st : Stmt) (ps : List Str) (f : Addr) (fd : FuncData) : Prop where
  F : L2.Fun K x x st f fd
  b : Binds K fd ps []
  m : mg x = some (.ref f)
structure Lib (K : PySem.W.Frag) (mg : Str → Option Value) where
  fRatio : Addr
  dRatio : FuncData
  ratio : Df K mg "ratio" sRatio ["top", "bottom"] fRatio dRatio
  fIsIn : Addr
  dIsIn : FuncData
  isin : Df K mg "is_in" sIsIn ["value", "least", "most"] fIsIn dIsIn
  fNeedP : Addr
  dNeedP : FuncData
  needP : Df K mg "need_payments" sNeedP ["payments"] fNeedP dNeedP
  fNeedT : Addr
  dNeedT : FuncData
  needT : Df K mg "need_time" sNeedT ["time", "least", "most"] fNeedT dNeedT
  fTrim : Addr
  dTrim : FuncData
  trim : Df K mg "trimmed" sTrim ["some"] fTrim dTrim
  fPrim : Addr
  dPrim : FuncData
  prim : Df K mg "primitive" sPrim ["some"] fPrim dPrim
  fRem : Addr
  dRem : FuncData
  rem : Df K mg "remainder" sRem ["one", "other"] fRem dRem
  fDer : Addr
  dDer : FuncData
  der : Df K mg "derivative" sDer ["some"] fDer dDer
  fCf : Addr
  dCf : FuncData
  cf : Df K mg "common_factor" sCf ["one", "other"] fCf dCf
  fQuot : Addr
  dQuot : FuncData
  quot : Df K mg "quotient" sQuot ["one", "other"] fQuot dQuot
  fSimple : Addr
  dSimple : FuncData
  simple : Df K mg "simple" sSimple ["some"] fSimple dSimple
  fChain : Addr
  dChain : FuncData
  chain : Df K mg "chain_of" sChain ["some"] fChain dChain
  fVal : Addr
  dVal : FuncData
  val : Df K mg "value_of" sVal ["some", "place"] fVal dVal
  fChg : Addr
  dChg : FuncData
  chg : Df K mg "changes_at" sChg ["chain", "place"] fChg dChg
  fRoots : Addr
  dRoots : FuncData
  roots : Df K mg "roots_in" sRoots ["chain", "low", "high"] fRoots dRoots
  fBound : Addr
  dBound : FuncData
  bound : Df K mg "bound_of" sBound ["some"] fBound dBound
  fPoly : Addr
  dPoly : FuncData
  poly : Df K mg "polynomial_of" sPoly ["payments"] fPoly dPoly
  fAbove : Addr
  dAbove : FuncData
  above : Df K mg "count_above" sAbove ["some", "discount"] fAbove dAbove
  fAll : Addr
  dAll : FuncData
  all : Df K mg "count_all" sAll ["some"] fAll dAll
  fCount : Addr
  dCount : FuncData
  count : Df K mg "yield_count" sCount ["payments"] fCount dCount
  fOnly : Addr
  dOnly : FuncData
  only : Df K mg "only_yield" sOnly ["payments"] fOnly dOnly
  fAtL : Addr
  dAtL : FuncData
  atl : Df K mg "is_at_least" sAtL ["some", "low", "unit"] fAtL dAtL
  fFloor : Addr
  dFloor : FuncData
  floor : Df K mg "yield_floor" sFloor ["payments", "places"] fFloor dFloor
  fTaken : Addr
  dTaken : FuncData
  taken : Df K mg "_law_taken" sTaken ["_law_row", "_law_many"] fTaken dTaken
  fPick : Addr
  dPick : FuncData
  pick : Df K mg "_law_pick" sPick ["_law_row", "_law_things"] fPick dPick
  fSign : Addr
  dSign : FuncData
  sign : Df K mg "_law_sign" sSign ["_law_payments", "_law_top", "_law_bottom"] fSign dSign
  fTold : Addr
  dTold : FuncData
  told : Df K mg "_law_told" sTold ["_law_work"] fTold dTold
theorem for_seq {K : PySem.W.Frag} {g : TG} {tb : TS} {D : Ends} {σ : L2.St} {H : Hp} {j : Nat} {a : Addr} {xs : List V} (hi : σ[j]? = some (some (.ref a))) (hA : SqA K H a xs) (Pv : Nat → L2.St → Hp → Prop) (h0 : Pv 0 σ H) (hp : ∀ i σ H', Pv i σ H' → Same H H')
    (hs : ∀ i x σ' H' H2, i < xs.length → Pv i σ' H' → Same H' H2 → xs[i]? = some x → g x σ' H2 fun σ2 H3 => tb { D with nx := Pv (i + 1), ct := Pv (i + 1), bk := D.nx } σ2 H3) (hd : ∀ σ' H', Pv xs.length σ' H' → D.nx σ' H') :
    tFor (iSeq K (tVar j)) g tb D σ H := by
  refine ⟨_, hi, a, rfl, ?_⟩
  rcases hA with hA | hA
  · exact .inl ⟨⟨_, hA⟩, for_y (yl_list fun H' s => s.seq hA) Pv h0 hp hs hd⟩
  · exact .inr ⟨⟨_, hA⟩, for_y (yl_tup fun H' s => sameT s hA) Pv h0 hp hs hd⟩
theorem pyl_blk {X : Cx} (h : Pyl X) (s : Shared) (H : Hp) (scope : Scope) (cenv : Env) (fp : List Addr) : Pyl (X.blk s H scope cenv fp) := ⟨h.seer, h.tree, h.deep, h.run⟩
section
variable {P : Program} {w : World} {K : PySem.W.Frag} {mg : Str → Option Value} {base : Heap}
/-! ### primitive -/
theorem scPrim : FnScope ["some", "common", "a"] ["some"] (defScope sPrim) := ⟨rfl, rfl, rfl, by decide +kernel, rfl, by decide +kernel, by decide +kernel⟩
def spPrim (K : PySem.W.Frag) : Sp := fun vs H Q _ => ∃ (a : Addr) (xs : List Int), vs = [.ref a] ∧ SqA K H a (iv xs) ∧ xs.length ≤ 1000 ∧ ∀ H' p, Same H H' → H p = none → H' p = some (.tup (iv (Yk.prim xs))) → Q (.ref p) H'
theorem len_trim1000 {xs : List Int} (h : xs.length ≤ 1000) (i : Nat) (f : Int → Int) : (iv (((Yk.trim xs).take i).map f)).length < sizeLine := by
  have := Yk.trim_len xs
  refine small1000 ?_
  rw [List.length_map, List.length_map, List.length_take]
  omega
theorem map_take_succ {l : List Int} {i : Nat} {x : Int} (f : Int → Int) (h : l[i]? = some x) : iv ((l.take (i + 1)).map f) = iv ((l.take i).map f) ++ [V.int (f x)] := by
  rw [List.take_add_one, h]
  simp
theorem iv_at {l : List Int} {i : Nat} {x : V} (h : (iv l)[i]? = some x) : ∃ b, l[i]? = some b ∧ x = .int b := by
  rw [List.getElem?_map] at h
  cases e : l[i]? with
  | none =>
    rw [e] at h
    cases h
  | some b =>
    rw [e] at h
    exact ⟨b, rfl, (Option.some.inj h).symm⟩
theorem ok_prim {k : Nat} (L : Lib K mg) (T : Txt mg) (G : Gd P base) : FnOk P w K mg base CX0 (k + 41) L.fPrim L.dPrim ["some"] (spPrim K) := by
  refine L.prim.F.ok scPrim (fun vs H Q E h => ?_) (fun cdv A outer s H vs Q E hr h => ?_)
  · obtain ⟨a, xs, rfl, _⟩ := h
    rfl
  · obtain ⟨a, xs, rfl, hA, hlen, q⟩ := h
    have py := pyl_of (CX := CX0) (P := P) (w := w) (K := K) (mg := mg) (N := ["some", "common", "a"]) (H := H) (E := E) (outer := outer) (k := k + 6) G hr rfl rfl
    have py : Pyl (cxOf CX0 P w K mg base ["some", "common", "a"] "primitive" (defScope sPrim) L.fPrim cdv A outer s H E).nox := ⟨py.seer, py.tree, py.deep, py.run⟩
    refine ⟨_, pss_cons (ps_set (i := 1) scPrim.nd rfl (.inr rfl) pe_int)
      (pss_cons (ps_for PassesOwn.never rfl (pi_seq (pv 0)) (pg_name (i := 2) scPrim.nd rfl (.inl rfl))
        (pss_one (ps_set (i := 1) scPrim.nd rfl (.inr rfl) (pe_callBfun cr_gcd (by rfl) T.gcd (pa_cons (pv 1) (pa_cons (pv 2) pa_nil))))))
      (pss_one (ps_ret (pe_callTy call_tuple_of (by rfl) T.tuple boot_tuple (pa_cons
        (pe_lc (own := [("a", 2)]) (g := gName 2) (tt := tYes) rfl scPrim.nd (pi_tup (pe_call (ok_trim (k := k + 39) L.trim.F T) hr (by rfl) L.trim.m L.trim.F.kp L.trim.b .nil pass0 (pa_cons (pv 0) pa_nil)))
          (blkOk_by (N := ["some", "common", "a"]) (sc := defScope sPrim) (by decide +kernel)) (fun _ _ _ _ _ => pg_name (i := 2) scPrim.nd rfl (Or.inl rfl)) (fun _ _ _ _ _ => pts_nil) (fun _ _ _ _ _ => pe_op (op_divG (pyl_blk py _ _ _ _ _)) (pv 2) (pv 1))) pa_nil))))), ?_⟩
    refine for_seq (a := a) (xs := iv xs) (j := 0) rfl hA (fun i σ H' => ∃ y, σ = [some (.ref a), some (.int ((xs.take i).foldl (fun c a => Nat.gcd c a.natAbs) 0 : Nat)), y] ∧ Same H H') ⟨_, rfl, Same.refl _⟩ (fun i σ H' h => h.choose_spec.2) ?_ ?_
    · rintro i x σ' H' H2 hi ⟨y, rfl, sm⟩ s2 hx
      obtain ⟨b, hb, rfl⟩ := iv_at hx
      refine ⟨_, rfl, .int b, rfl, _, b, rfl, some (.int b), ?_, sm.trans s2⟩
      rw [List.take_add_one, hb, List.foldl_append]
      rfl
    · rintro σ' H' ⟨y, rfl, sm⟩
      rw [show (iv xs).length = xs.length by rw [List.length_map], List.take_length]
      refine ⟨_, rfl, a, xs, rfl, sameA sm hA, fun H2 p s2 np hp => ?_⟩
      refine ⟨p, rfl, ⟨_, SqT.of hp⟩, fun D hD => ?_⟩
      refine lc_y hD (yl_tup (xs := iv (Yk.trim xs)) fun H3 s3 => SqT.of (s3 _ _ hp)) (fun i => iv (((Yk.trim xs).take i).map (fun a => a / (Yk.cont xs : Int)))) rfl ?_ ?_
      · intro i x H3 H4 hi n3 s34 hx n4
        obtain ⟨b, hb, rfl⟩ := iv_at hx
        have hmem : b ∈ xs := Yk.mem_trim (List.mem_of_getElem? hb)
        refine ⟨rfl, _, rfl, _, rfl, b, _, rfl, rfl, ?_, ?_⟩
        · intro e0
          have hc : Yk.cont xs = 0 := by
            have : ((Yk.cont xs : Nat) : Int) = 0 := e0
            omega
          have hz := Yk.allZ_trim (Yk.cont_zero hc)
          rw [hz] at hb
          cases hb
        · refine ny_app hD n4 (len_trim1000 hlen i _) ?_
          rw [map_take_succ _ hb, ← Int.fdiv_eq_ediv_of_nonneg _ (Int.natCast_nonneg _)]
          rfl
      · intro H3 n3
        rw [show (iv (Yk.trim xs)).length = (Yk.trim xs).length by rw [List.length_map], List.take_length] at n3
        refine ⟨D, _, rfl, .inl ⟨SqL.of n3.2, fun l hl => ?_⟩⟩
        have s03 : Same H H3 := (sm.trans s2).trans n3.1
        exact q _ l (same_up s03 (s03.free hl)) (s03.free hl) upd_same
end
end Yw
end
section
set_option maxRecDepth 100000
set_option maxHeartbeats 4000000
namespace Yk
theorem ext_getD {l m : List Int} (hl : l.length = m.length) (h : ∀ i, i < l.length → l.getD i 0 = m.getD i 0) : l = m := by
  refine List.ext_getElem hl fun i h1 h2 => ?_
  have := h i h1
  rw [List.getD_eq_getElem?_getD, List.getD_eq_getElem?_getD, List.getElem?_eq_getElem h1, List.getElem?_eq_getElem h2] at this
  exact this
theorem subAt_snoc {n : Nat} {f b : Int} {o l : List Int} (h : n + o.length < l.length) : subAt n f (o ++ [b]) l = (subAt n f o l).set (n + o.length) ((subAt n f o l).getD (n + o.length) 0 - f * b) := by
  refine ext_getD (by rw [subAt_len, List.length_set, subAt_len]) fun i hi => ?_
  rw [subAt_len] at hi
  rw [getD_subAt _ _ _ _ _ (by rw [List.length_append]; simp; omega), getD_set, subAt_len, getD_subAt _ _ _ _ _ (by omega), getD_subAt _ _ _ _ _ (by omega)]
  by_cases c : n + o.length = i
  · subst c
    rw [if_neg (by omega), if_pos ⟨rfl, hi⟩, if_neg (by omega), Nat.add_sub_cancel_left]
    have e1 : (o ++ [b]).getD o.length 0 = b := by simp
    have e2 : o.getD o.length 0 = 0 := by simp
    rw [e1, e2]
    omega
  · rw [if_neg (show ¬ (n + o.length = i ∧ i < l.length) from fun z => c z.1)]
    by_cases c2 : i < n
    · rw [if_pos c2, if_pos c2]
    · rw [if_neg c2, if_neg c2]
      have e : (o ++ [b]).getD (i - n) 0 = o.getD (i - n) 0 := by
        rw [List.getD_eq_getElem?_getD, List.getD_eq_getElem?_getD, List.getElem?_append]
        split
        · rfl
        · rename_i h2
          rw [List.getElem?_eq_none (show o.length ≤ i - n by omega)]
          rw [List.getElem?_eq_none (show [b].length ≤ i - n - o.length by simp; omega)]
      rw [e]
theorem subAt_nil (f : Int) : ∀ (n : Nat) (l : List Int), subAt n f [] l = l
  | 0, l => rfl
  | n + 1, [] => rfl
  | n + 1, a :: l => congrArg (a :: ·) (subAt_nil f n l)
end Yk
namespace Yw
open PySem PySem.Spec PyProof.Rows L2 HT
theorem cut_init (xs : List V) : cutV xs none (some (-1)) = xs.dropLast := by
  unfold cutV
  rw [HT.sIx_none, List.drop_zero, List.dropLast_eq_take]
  congr 1
  show HT.sIx xs.length xs.length (some (-1)) - 0 = xs.length - 1
  unfold HT.sIx
  simp
  omega
theorem cmul_of {i j : Int} {A B : Nat} (hi : i.natAbs < 2 ^ A) (hj : j.natAbs < 2 ^ B) (h : A + B < 134000000) : CMulG i j := by
  have lg : ∀ (x A : Nat), x < 2 ^ A → x.log2 ≤ A := fun x A hx => by
    by_cases z : x = 0
    · subst z
      exact Nat.zero_le _
    · exact Nat.le_of_lt ((Nat.log2_lt z).mpr hx)
  have h1 := lg _ _ hi
  have h2 := lg _ _ hj
  show i.natAbs.log2 + j.natAbs.log2 < 134000000
  omega
theorem iv_getD {l : List Int} {i : Nat} (h : i < l.length) : (iv l)[i]? = some (V.int (l.getD i 0)) := by
  rw [List.getElem?_map, List.getElem?_eq_getElem h, List.getD_eq_getElem?_getD, List.getElem?_eq_getElem h]
  rfl
theorem iv_last {l : List Int} (h : l ≠ []) : atI (iv l) (-1) = some (V.int (Yk.lead l)) := by
  obtain ⟨m, b, rfl⟩ := snoc_of h
  rw [iv_snoc, Yk.lead_append_singleton]
  exact atI_last _ _
theorem iv_len (l : List Int) : (iv l).length = l.length := List.length_map _
theorem lc_map {J : It} {te : TE} {vs : List Nat} {σ : L2.St} {H1 : Hp} {D : Addr} {Qd : Hp → Prop} {xs : List Int} (j : Nat) (hD : H1 D = none) (hJ : Yl J (fun H' => Same H1 H') (iv xs).length (fun i x _ => (iv xs)[i]? = some x)) (f : Int → Int) (hlen : xs.length ≤ 1000)
    (hw : ∀ b : Int, wipe ((wipe σ vs).set j (some (.int b))) vs = wipe σ vs) (hs : ∀ (b : Int) (H' : Hp) (Q : VK), b ∈ xs → Same H1 H' → Q (.int (f b)) H' → te ((wipe σ vs).set j (some (.int b))) H' Q) (hd : ∀ H', Same H1 H' → H' D = some (.lst (iv (xs.map f))) → Qd H') :
    ∃ W : Nat → Nat → Hp → Prop, (∃ m, W 0 m (upd H1 D (.lst []))) ∧ ∀ i m H, W i m H →
      (J.stop i H ∧ Qd H) ∨ (J.go i H ∧ ∃ Nx : Hp → Prop, (∀ H', Nx H' → ∃ m', m' < m ∧ W (i + 1) m' H') ∧ ∀ x H', J.yld i H x H' → gName j x (wipe σ vs) H' fun σ2 H2 => wipe σ2 vs = wipe σ vs ∧ tYes σ2 H2 fun b H3 =>
        if b = true then te σ2 H3 fun y H4 => ∃ acc, H4 D = some (.lst acc) ∧ acc.length < sizeLine ∧ Nx (upd H4 D (.lst (acc ++ [y]))) else Nx H3) := by
  refine lc_y hD hJ (fun i => iv ((xs.take i).map f)) rfl ?_ ?_
  · intro i x H3 H4 hi n3 s34 hx n4
    obtain ⟨b, hb, rfl⟩ := iv_at hx
    refine ⟨hw b, hs b H4 _ (List.mem_of_getElem? hb) n4.1 (ny_app hD n4 (small1000 ?_) (map_take_succ f hb))⟩
    rw [iv_len, List.length_map, List.length_take]
    omega
  · intro H3 n3
    rw [iv_len, List.take_length] at n3
    exact hd H3 n3.1 n3.2
theorem tif_sign {σ : L2.St} {H : Hp} {Q : VK} {i j : Nat} {p x : Int} (h1 : σ[i]? = some (some (.int p))) (h2 : σ[j]? = some (some (.int x))) (q : Q (.int (if 0 < p then x else 0 - x)) H) :
    tIf (tTest (tOp (rI0 fun i j => .bl (decide (j < i))) (tVar i) (tC (.int 0)))) (tVar j) (tOp (rI0 fun i j => .int (i - j)) (tC (.int 0)) (tVar j)) σ H Q := by
  refine ⟨_, h1, _, _, rfl, rfl, _, rfl, ite2 (fun h => ?_) (fun h => ?_)⟩
  · rw [if_pos (of_decide_eq_true h)] at q
    exact ⟨_, h2, q⟩
  · rw [if_neg (fun z => h (decide_eq_true z))] at q
    exact ⟨_, h2, _, _, rfl, rfl, q⟩
theorem for_enumV {K : PySem.W.Frag} {g : TG} {tb : TS} {D : Ends} {σ : L2.St} {H : Hp} {j : Nat} {a : Addr} {xs : List V} (hi : σ[j]? = some (some (.ref a))) (Pv : Nat → L2.St → Hp → Prop) (h0 : Pv 0 σ H) (hp : ∀ i σ H', Pv i σ H' → SqT K H' a xs)
    (hs : ∀ i x T σ' H' H2, i < xs.length → Pv i σ' H' → Same H' H2 → H2 T = some (.tup [.int (i : Nat), x]) → xs[i]? = some x → g (.ref T) σ' H2 fun σ2 H3 => tb { D with nx := Pv (i + 1), ct := Pv (i + 1), bk := D.nx } σ2 H3) (hd : ∀ σ' H', Pv xs.length σ' H' → D.nx σ' H') :
    tFor (iEnumT K (tCons (tVar j) tNil)) g tb D σ H :=
  ⟨_, hi, a, xs, rfl, hp 0 _ _ h0, for_y (yl_enum (P := fun H' => SqT K H' a xs) fun _ h => h) Pv h0 hp (fun i x σ' H' H2 hi hv s2 hr => by
    obtain ⟨T, v, rfl, hT, hv'⟩ := hr
    exact hs i v T σ' H' H2 hi hv s2 hT hv') hd⟩
theorem atI_int {l : List Int} {n : Nat} {i : Int} (hi : i = (n : Nat)) (h : n < l.length) : atI (iv l) i = some (V.int (l.getD n 0)) := by
  subst hi
  exact atI_nat (iv_getD h)
theorem ixN_int {n m : Nat} {i : Int} (hi : i = (m : Nat)) (h : m < n) : ixN n i = some m := by
  subst hi
  unfold ixN
  rw [if_pos (by omega), if_pos (by omega), Int.toNat_natCast]
section
variable {P : Program} {w : World} {K : PySem.W.Frag} {mg : Str → Option Value} {base : Heap}
/-! ### remainder -/
def RemW (a b : Addr) (one other : List Int) (B : Nat) (H : Hp) (m : Nat) (σ : L2.St) (H' : Hp) : Prop :=
  ∃ (l : List Int) (r : Addr) (n A : Nat) (y4 y5 y6 y7 y8 y9 : Option V), σ = [some (.ref a), some (.ref b), some (.ref r), some (.int (Yk.lead other)), y4, y5, y6, y7, y8, y9] ∧ l.length = m ∧ Same H H' ∧ H r = none ∧ H' r = some (.lst (iv l)) ∧
      l.length ≤ n ∧ n ≤ 1000 ∧ Yk.rloop n other l = Yk.remd one other ∧ Yk.Bd A l ∧ A + (l.length + 1 - other.length) * (B + 1) < 134000000
theorem scRem : FnScope ["one", "other", "rest", "last", "lead", "at", "factor", "k", "b", "a"] ["one", "other"] (defScope sRem) := ⟨rfl, rfl, rfl, by decide +kernel, rfl, by decide +kernel, by decide +kernel⟩
def spRem (K : PySem.W.Frag) : Sp := fun vs H Q _ => ∃ (a b : Addr) (one other : List Int) (B : Nat), vs = [.ref a, .ref b] ∧ SqA K H a (iv one) ∧ SqT K H b (iv other) ∧ other ≠ [] ∧ one.length ≤ 1000 ∧ other.length ≤ 1000 ∧ Yk.Bd B one ∧ Yk.Bd B other ∧
  B + (one.length + 1 - other.length) * (B + 1) < 134000000 ∧ ∀ H' p, Same H H' → H p = none → H' p = some (.tup (iv (Yk.remd one other))) → Q (.ref p) H'
theorem ok_rem {k : Nat} (L : Lib K mg) (T : Txt mg) : FnOk P w K mg base CX0 (k + 2) L.fRem L.dRem ["one", "other"] (spRem K) := by
  refine L.rem.F.ok scRem (fun vs H Q E h => ?_) (fun cdv A outer s H vs Q E hr h => ?_)
  · obtain ⟨a, b, one, other, B, rfl, _⟩ := h
    rfl
  · obtain ⟨a, b, one, other, B, rfl, hA, hB, ho0, hl1, hl2, hb1, hb2, hM, q⟩ := h
    refine ⟨_, pss_cons (ps_asg (pe_tup (pa_cons (pe_callTy call_list_of (by rfl) T.list boot_list (pa_cons (pv 0) pa_nil)) (pa_cons (pe_ix ix_tup (pv 1) (pe_un un_neg pe_int) (fun _ _ => rfl)) pa_nil)))
        (pg_tup rfl (pgs_cons (pg_name (i := 2) scRem.nd rfl (.inl rfl)) (pgs_cons (pg_name (i := 3) scRem.nd rfl (.inr rfl)) pgs_nil))))
      (pss_cons (ps_while PassesOwn.never (pt_cmpR op_ge (pe_callB call_len_seq (by rfl) T.len boot_len (pa_cons (pv 2) pa_nil)) (pe_callB call_len_seq (by rfl) T.len boot_len (pa_cons (pv 1) pa_nil)) (nomark _))
        (pss_cons (ps_par (i := 4) (j := 5) rfl scRem.nd rfl rfl (by decide) rfl rfl (pa_cons (pe_ix ix_list (pv 2) (pe_un un_neg pe_int) (fun _ _ => rfl)) (pa_cons (pe_op op_sub (pe_callB call_len_seq (by rfl) T.len boot_len (pa_cons (pv 2) pa_nil)) (pe_callB call_len_seq (by rfl) T.len boot_len (pa_cons (pv 1) pa_nil))) pa_nil)) rfl)
        (pss_cons (ps_set (i := 6) scRem.nd rfl (.inl rfl) (pe_ifExp (pt_cmpR op_gt (pv 3) pe_int (nomark _)) (pv 4) (pe_op op_sub pe_int (pv 4))))
        (pss_cons (ps_setLc (i := 2) (own := [("a", 9)]) (g := gName 9) (tt := tYes) rfl scRem.nd rfl rfl (sw_true rfl rfl rfl (by decide +kernel)) (pi_list (pv 2)) (blkOk_by (N := ["one", "other", "rest", "last", "lead", "at", "factor", "k", "b", "a"]) (sc := defScope sRem) (by decide +kernel))
            (fun _ _ _ _ _ => pg_name (i := 9) scRem.nd rfl (Or.inl rfl)) (fun _ _ _ _ _ => pts_nil) (fun _ _ _ _ _ => pe_op op_mulG (pv 9) (pe_callB call_abs (by rfl) T.abs boot_abs (pa_cons (pv 3) pa_nil))))
        (pss_cons (ps_for PassesOwn.never rfl (pi_enumT (by rfl) T.enumerate (pa_cons (pv 1) pa_nil)) (pg_tup rfl (pgs_cons (pg_name (i := 7) scRem.nd rfl (.inl rfl)) (pgs_cons (pg_name (i := 8) scRem.nd rfl (.inl rfl)) pgs_nil)))
          (pss_one (ps_asg (pe_op op_sub (pe_ix ix_list (pv 2) (pe_op op_add (pv 5) (pv 7)) (fun _ _ => rfl)) (pe_op op_mulG (pv 6) (pv 8))) (pg_sub (pv 2) (pe_op op_add (pv 5) (pv 7)) set_list))))
        (pss_one (ps_set (i := 2) scRem.nd rfl (.inl rfl) (pe_callTy call_list_of (by rfl) T.list boot_list (pa_cons
          (pe_call (ok_trim (k := k) L.trim.F T) hr (by rfl) L.trim.m L.trim.F.kp L.trim.b .nil pass0 (pa_cons (pe_slice sl_list (pv 2) po_none (po_some (pe_un un_neg pe_int))) pa_nil)) pa_nil)))))))))
      (pss_one (ps_ret (pe_call (ok_trim (k := k) L.trim.F T) hr (by rfl) L.trim.m L.trim.F.kp L.trim.b .nil pass0 (pa_cons (pv 2) pa_nil))))), ?_⟩
    refine ⟨_, rfl, a, iv one, rfl, hA, fun r nr => ⟨_, rfl, 1, rfl, b, _, -1, _, rfl, rfl, sameT (sameU nr) hB, iv_last ho0, Nat.le_of_lt (small1000 (n := 2) (by decide)), fun t nt => ?_⟩⟩
    refine ⟨t, _, rfl, SqT.of upd_same, rfl, _, _, rfl, _, _, rfl, rfl, ?_⟩
    have hrt : r ≠ t := ne_of_none upd_same nt
    have s0 : Same H (upd (upd H r (.lst (iv one))) t (.tup [.ref r, .int (Yk.lead other)])) := same_up (sameU nr) (by rw [upd_ne (fun z => hrt z.symm)] at nt; exact nt)
    refine ⟨RemW a b one other B H, ⟨_, one, r, one.length, B, _, _, _, _, _, _, rfl, rfl, s0, nr, by rw [upd_ne hrt, upd_same], Nat.le_refl _, hl1, rfl, hb1, hM⟩, ?_⟩
    rintro m σ H1 ⟨l, r, n, A, y4, y5, y6, y7, y8, y9, rfl, em, sm, hr0, er, hln, hn, et, hbl, hAM⟩
    refine ⟨_, rfl, r, iv l, rfl, .inl (SqL.of er), _, rfl, b, iv other, rfl, .inr (sameT sm hB), _, _, rfl, rfl, _, rfl, ?_⟩
    rw [iv_len, iv_len]
    have ho1 := List.length_pos_iff.mpr ho0
    refine ite2 (fun hc => ?_) (fun hc => ?_)
    · have hc : other.length ≤ l.length := by
        have := of_decide_eq_true hc
        omega
      have hl0 : l ≠ [] := fun z => by
        rw [z] at hc
        exact absurd (Nat.le_trans ho1 hc) (by decide)
      have hAB : A + B < 134000000 := by
        have : 1 * (B + 1) ≤ (l.length + 1 - other.length) * (B + 1) := Nat.mul_le_mul_right _ (by omega)
        omega
      have habs : (if Yk.lead other < 0 then -(Yk.lead other) else Yk.lead other) = ((Yk.lead other).natAbs : Int) := by
        split <;> omega
      have hlb := Yk.bd_lead hb2
      have hfb : (if 0 < Yk.lead other then Yk.lead l else 0 - Yk.lead l).natAbs < 2 ^ A := by
        have := Yk.bd_lead hbl
        split <;> omega
      refine ⟨fun σ' H' => ∃ m', m' < m ∧ RemW a b one other B H m' σ' H', fun σ' H' h => h, ?_⟩
      -- lead, at
      refine ⟨_, rfl, 1, rfl, r, iv l, -1, _, rfl, rfl, SqL.of er, iv_last hl0, _, rfl, r, iv l, rfl, .inl (SqL.of er), _, rfl, b, iv other, rfl, .inr (sameT sm hB), _, _, rfl, rfl, _, _, rfl, ?_⟩
      rw [iv_len, iv_len]
      -- factor
      refine tif_sign (i := 3) (j := 4) rfl rfl ?_
      -- rest = [..]
      refine ⟨_, rfl, r, rfl, ⟨_, SqL.of er⟩, fun D hD => lc_map 9 hD (yl_list fun H' s' => SqL.of (s' _ _ er)) (fun x => x * ((Yk.lead other).natAbs : Int)) (Nat.le_trans hln hn) (fun _ => rfl) (fun x H' Q' hx s' hq => ?_) (fun H3 s3 e3 => ?_)⟩
      · refine ⟨_, rfl, _, rfl, _, rfl, x, _, rfl, rfl, ?_, ?_⟩
        · rw [habs]
          exact cmul_of (hbl x hx) (by rw [Int.natAbs_natCast]; exact hlb) hAB
        · rw [habs]
          exact hq
      -- the loop
      have hD0 : H D = none := sm.free hD
      have s03 : Same H H3 := sm.trans s3
      generalize hl' : l.map (fun x => x * ((Yk.lead other).natAbs : Int)) = l' at e3
      have hll : l'.length = l.length := by rw [← hl', List.length_map]
      have hbl' : Yk.Bd (A + B) l' := by
        rw [← hl']
        exact hbl.mul (by rw [Int.natAbs_natCast]; exact hlb)
      generalize hf : (if 0 < Yk.lead other then Yk.lead l else 0 - Yk.lead l) = f at hfb ⊢
      refine for_enumV (j := 1) (xs := iv other) rfl (fun i σ' H' => ∃ y7 y8, σ' = [some (.ref a), some (.ref b), some (.ref D), some (.int (Yk.lead other)), some (.int (Yk.lead l)), some (.int ((l.length : Int) - (other.length : Int))), some (.int f), y7, y8, y9] ∧ Same H H' ∧
        H' D = some (.lst (iv (Yk.subAt (l.length - other.length) f (other.take i) l')))) ⟨_, _, rfl, s03, by rw [e3, List.take_zero, Yk.subAt_nil]⟩ (fun i σ' H' h => by
          obtain ⟨_, _, _, s', _⟩ := h
          exact sameT s' hB) ?_ ?_
      · rintro i x T σ' H4 H5 hi ⟨z7, z8, rfl, s4, e4⟩ s45 hT hx
        obtain ⟨bv, hbv, rfl⟩ := iv_at hx
        rw [iv_len] at hi
        have e5 := s45 _ _ e4
        generalize hcur : Yk.subAt (l.length - other.length) f (other.take i) l' = cur at e5
        have hcl : cur.length = l.length := by rw [← hcur, Yk.subAt_len, hll]
        have hix : ((l.length : Int) - (other.length : Int)) + (i : Nat) = ((l.length - other.length + i : Nat) : Int) := by omega
        have hlt : l.length - other.length + i < cur.length := by omega
        have hmem : bv ∈ other := List.mem_of_getElem? hbv
        refine ⟨T, _, rfl, SqT.of hT, rfl, _, _, rfl, _, _, rfl, rfl, ?_⟩
        refine ⟨_, rfl, _, rfl, _, rfl, _, _, rfl, rfl, D, iv cur, _, _, rfl, rfl, SqL.of e5, atI_int hix hlt, _, rfl, _, rfl, f, bv, rfl, rfl, cmul_of hfb (hb2 bv hmem) hAB, _, _, rfl, rfl, ?_⟩
        refine ⟨_, rfl, _, rfl, _, rfl, _, _, rfl, rfl, D, iv cur, _, l.length - other.length + i, rfl, rfl, e5, ixN_int hix (by rw [iv_len]; exact hlt), ?_⟩
        refine ⟨_, _, rfl, same_up (s4.trans s45) hD0, ?_⟩
        rw [upd_same, List.take_add_one, hbv]
        have e6 := Yk.subAt_snoc (n := l.length - other.length) (f := f) (b := bv) (o := other.take i) (l := l') (by rw [List.length_take, hll]; omega)
        rw [show (other.take i).length = i by rw [List.length_take]; omega, hcur] at e6
        rw [show (some bv).toList = [bv] from rfl, e6]
        exact congrArg (fun z => some (HO.lst z)) List.map_set.symm
      · rintro σ' H4 ⟨z7, z8, rfl, s4, e4⟩
        rw [iv_len, List.take_length] at e4
        generalize hcur : Yk.subAt (l.length - other.length) f other l' = cur at e4
        have ers : Yk.rstep other l = Yk.trim cur.dropLast := by
          unfold Yk.rstep
          rw [hl', hf, hcur]
        refine ⟨_, rfl, 1, rfl, _, rfl, D, iv cur, rfl, SqL.of e4, fun p np => ?_⟩
        refine ⟨p, cur.dropLast, rfl, SqA.l (by rw [upd_same, cut_init, ← List.map_dropLast]), fun H5 p5 s5 np5 hp5 => ?_⟩
        refine ⟨p5, _, rfl, .inr (SqT.of hp5), fun r2 nr2 => ?_⟩
        rw [← ers] at *
        have s05 : Same H H5 := (same_up s4 (s4.free np)).trans s5
        have hr2 : H r2 = none := s05.free nr2
        obtain ⟨n', rfl⟩ : ∃ n', n = n' + 1 := ⟨n - 1, by omega⟩
        have hsl := Yk.rstep_len (other := other) (rest := l) (by omega)
        have hstep : Yk.rloop n' other (Yk.rstep other l) = Yk.remd one other := by
          rw [← et]
          show _ = (if other.length ≤ l.length then Yk.rloop n' other (Yk.rstep other l) else Yk.trim l)
          rw [if_pos hc]
        refine ⟨(Yk.rstep other l).length, by omega, Yk.rstep other l, r2, n', A + B + 1, _, _, _, _, _, _, rfl, rfl, same_up s05 hr2, hr2, upd_same, by omega, by omega, hstep, Yk.bd_rstep hb2 hbl, ?_⟩
        have h1 : (l.length + 1 - other.length) = (l.length - other.length) + 1 := by omega
        rw [h1, Nat.succ_mul] at hAM
        have h2 : ((Yk.rstep other l).length + 1 - other.length) * (B + 1) ≤ (l.length - other.length) * (B + 1) := Nat.mul_le_mul_right _ (by omega)
        omega
    · have hc : ¬ other.length ≤ l.length := fun z => hc (decide_eq_true (by omega))
      have e2 : Yk.remd one other = Yk.trim l := by
        rw [← et]
        cases n with
        | zero => rfl
        | succ n' =>
          show (if other.length ≤ l.length then _ else Yk.trim l) = _
          rw [if_neg hc]
      refine ⟨_, rfl, r, l, rfl, SqA.l er, fun H5 p5 s5 np5 hp5 => ?_⟩
      rw [← e2] at hp5
      exact q _ _ (sm.trans s5) (sm.free np5) hp5
end
end Yw
end
section
set_option maxRecDepth 100000
set_option maxHeartbeats 4000000
namespace Yk
theorem dmul_get : ∀ (k : Nat) (l : List Int) (i : Nat) (b : Int), l[i]? = some b → (dmul k l)[i]? = some (((k + i : Nat) : Int) * b)
  | k, [], i, b, h => by simp at h
  | k, a :: l, 0, b, h => by
    have e : a = b := Option.some.inj h
    subst e
    rfl
  | k, a :: l, i + 1, b, h => by
    have := dmul_get (k + 1) l i b (by simpa using h)
    show (dmul (k + 1) l)[i]? = _
    rw [this]
    congr 2
    congr 1
    omega
end Yk
namespace Yw
open PySem PySem.Spec PyProof.Rows L2 HT
theorem cut_one (xs : List V) : cutV xs (some 1) none = xs.drop 1 := by
  unfold cutV
  rw [show HT.sIx xs.length 0 (some 1) = min 1 xs.length from HT.sIx_nat xs.length 0 1, HT.sIx_none]
  cases xs with
  | nil => rfl
  | cons x r =>
    rw [show min 1 (x :: r).length = 1 by
      rw [List.length_cons]
      omega]
    show (List.take ((x :: r).length - 1) r) = r
    rw [List.length_cons, Nat.add_sub_cancel]
    exact List.take_length
theorem iv_take_succ {l : List Int} {i : Nat} {x : Int} (h : l[i]? = some x) : iv (l.take (i + 1)) = iv (l.take i) ++ [V.int x] := by
  rw [List.take_add_one, h]
  simp
section
variable {P : Program} {w : World} {K : PySem.W.Frag} {mg : Str → Option Value} {base : Heap}
/-! ### derivative -/
theorem scDer : FnScope ["some", "k", "a"] ["some"] (defScope sDer) := ⟨rfl, rfl, rfl, by decide +kernel, rfl, by decide +kernel, by decide +kernel⟩
def spDer (K : PySem.W.Frag) : Sp := fun vs H Q _ => ∃ (a : Addr) (xs : List Int) (B : Nat), vs = [.ref a] ∧ SqT K H a (iv xs) ∧ xs.length ≤ 1000 ∧ Yk.Bd B xs ∧ B + 10 < 134000000 ∧ ∀ H' p, Same H H' → H p = none → H' p = some (.tup (iv (Yk.deriv xs))) → Q (.ref p) H'
theorem ok_der {k : Nat} (L : Lib K mg) (T : Txt mg) : FnOk P w K mg base CX0 (k + 2) L.fDer L.dDer ["some"] (spDer K) := by
  refine L.der.F.ok scDer (fun vs H Q E h => ?_) (fun cdv A outer s H vs Q E hr h => ?_)
  · obtain ⟨a, xs, B, rfl, _⟩ := h
    rfl
  · obtain ⟨a, xs, B, rfl, hA, hlen, hb, hB, q⟩ := h
    refine ⟨_, pss_one (ps_ret (pe_call (ok_trim (k := k) L.trim.F T) hr (by rfl) L.trim.m L.trim.F.kp L.trim.b .nil pass0 (pa_cons (pe_slice sl_list
      (pe_lc (own := [("k", 1), ("a", 2)]) (g := gTup K 2 (gCons (gName 1) (gCons (gName 2) gNil))) (tt := tYes) rfl scDer.nd (pi_enumT (by rfl) T.enumerate (pa_cons (pv 0) pa_nil)) (blkOk_by (N := ["some", "k", "a"]) (sc := defScope sDer) (by decide +kernel))
        (fun _ _ _ _ _ => pg_tup rfl (pgs_cons (pg_name (i := 1) scDer.nd rfl (Or.inl rfl)) (pgs_cons (pg_name (i := 2) scDer.nd rfl (Or.inl rfl)) pgs_nil))) (fun _ _ _ _ _ => pts_nil) (fun _ _ _ _ _ => pe_op op_mulG (pv 1) (pv 2)))
      (po_some pe_int) po_none) pa_nil))), ?_⟩
    refine ⟨_, rfl, a, iv xs, rfl, hA, fun D hD => ?_⟩
    refine lc_y hD (yl_enum (xs := iv xs) fun H' s' => sameT s' hA) (fun i => iv ((Yk.dmul 0 xs).take i)) rfl ?_ ?_
    · intro i x H3 H4 hi n3 s34 hx n4
      obtain ⟨t, v, rfl, hT, hv⟩ := hx
      obtain ⟨b, hbv, rfl⟩ := iv_at hv
      rw [iv_len] at hi
      refine ⟨t, _, rfl, SqT.of hT, rfl, _, _, rfl, _, _, rfl, rfl, rfl, ?_⟩
      refine ⟨_, rfl, _, rfl, ((i : Nat) : Int), b, rfl, rfl, cmul_of (A := 10) (B := B) (by omega) (hb b (List.mem_of_getElem? hbv)) (by omega), ?_⟩
      refine ny_app hD n4 (small1000 ?_) ?_
      · rw [iv_len, List.length_take, Yk.dmul_len]
        omega
      · have := Yk.dmul_get 0 xs i b hbv
        rw [iv_take_succ this, Nat.zero_add]
    · intro H3 n3
      rw [iv_len, List.take_of_length_le (by rw [Yk.dmul_len]; exact Nat.le_refl _)] at n3
      refine ⟨1, rfl, D, _, rfl, SqL.of n3.2, fun p np => ?_⟩
      refine ⟨p, (Yk.dmul 0 xs).drop 1, rfl, SqA.l (by rw [upd_same, cut_one, ← List.map_drop]), fun H5 p5 s5 np5 hp5 => ?_⟩
      have s05 : Same H H5 := (same_up n3.1 (n3.1.free np)).trans s5
      have nH : H p5 = none := (same_up n3.1 (n3.1.free np)).free np5
      exact q _ _ s05 nH hp5
/-! ### common_factor -/
theorem scCf : FnScope ["one", "other"] ["one", "other"] (defScope sCf) := ⟨rfl, rfl, rfl, by decide +kernel, rfl, by decide +kernel, by decide +kernel⟩
def spCf (K : PySem.W.Frag) : Sp := fun vs H Q _ => ∃ (a b : Addr) (one other : List Int) (B : Nat), vs = [.ref a, .ref b] ∧ SqT K H a (iv one) ∧ SqT K H b (iv other) ∧ one.length ≤ 1000 ∧ Yk.Trm one ∧ Yk.Trm other ∧ other.length < one.length ∧ Yk.Bd B one ∧ Yk.Bd B other ∧
  (B + 1) * 3 ^ one.length < 134000000 ∧ ∀ H' p, Same H H' → H p = none → H' p = some (.tup (iv (Yk.cfac one other))) → Q (.ref p) H'
def CfW (H : Hp) (K : PySem.W.Frag) (g : List Int) (W : Nat) (m : Nat) (σ : L2.St) (H' : Hp) : Prop :=
  ∃ (a b : Addr) (one other : List Int) (B : Nat), σ = [some (.ref a), some (.ref b)] ∧ Same H H' ∧ H a = none ∧ H' a = some (.tup (iv one)) ∧ SqT K H' b (iv other) ∧ other.length = m ∧ Yk.Trm other ∧ other.length < one.length ∧ one.length ≤ 1000 ∧ Yk.Bd B one ∧ Yk.Bd B other ∧ (B + 1) * 3 ^ one.length ≤ W ∧ ∃ n, other.length ≤ n ∧ Yk.cloop n one other = g
end
end Yw
end
section
set_option maxRecDepth 100000
set_option maxHeartbeats 4000000
namespace Yw
open PySem PySem.Spec PyProof.Rows L2 HT
/-! ### t != () -/
def pyI (l : List Int) : List PyData := l.map PyData.int
theorem dp_all {K : PySem.W.Frag} {H : Hp} : ∀ l : List Int, DpAll K H (iv l) (pyI l)
  | [] => .nil
  | a :: l => .cons (.int a) (dp_all l)
theorem canLay_pyI : ∀ l : List Int, PyData.canLayAll0 (pyI l) = true
  | [] => by simp [pyI, PyData.canLayAll0]
  | a :: l => by
    have := canLay_pyI l
    show PyData.canLayAll0 (PyData.int a :: pyI l) = true
    simp [PyData.canLayAll0, PyData.canLay0, this]
theorem depth_pyI : ∀ l : List Int, PyData.depthAll (pyI l) = 0
  | [] => by simp [pyI, PyData.depthAll]
  | a :: l => by
    have := depth_pyI l
    show PyData.depthAll (PyData.int a :: pyI l) = 0
    simp [PyData.depthAll, PyData.depth, this]
theorem shaped_pyI (l : List Int) : SeqAt.shaped (.tuple (pyI l)) = true := by
  unfold SeqAt.shaped
  simp [PyData.canLay0, PyData.depth, canLay_pyI, depth_pyI]
theorem eqv_nilI (l : List Int) : (!PyData.eqv (.tuple (pyI l)) (.tuple (pyI []))) = decide (l ≠ []) := by
  cases l with
  | nil => simp [pyI, PyData.eqv, PyData.eqvAll]
  | cons a l => simp [pyI, PyData.eqv, PyData.eqvAll]
theorem ne_unit {K : PySem.W.Frag} {H : Hp} {Q : VK} {b : Addr} {l : List Int} (h : SqT K H b (iv l)) (q : ∀ p, H p = none → Q (.bl (decide (l ≠ []))) (upd H p (.tup []))) {i : Nat} {σ : L2.St} (hi : σ[i]? = some (some (.ref b))) :
    tOp (rNeD K) (tVar i) (tTup tNil) σ H Q := by
  refine ⟨_, hi, Nat.zero_le _, fun p np => ⟨.tuple (pyI l), .tuple (pyI []), .tup (sameT (sameU np) h) (dp_all l), .tup (SqT.of upd_same) .nil, shaped_pyI l, shaped_pyI [], ?_⟩⟩
  rw [eqv_nilI]
  exact q p np
section
variable {P : Program} {w : World} {K : PySem.W.Frag} {mg : Str → Option Value} {base : Heap}
theorem ok_cf {k : Nat} (L : Lib K mg) (T : Txt mg) (G : Gd P base) : FnOk P w K mg base CX0 (k + 42) L.fCf L.dCf ["one", "other"] (spCf K) := by
  refine L.cf.F.ok scCf (fun vs H Q E h => ?_) (fun cdv A outer s H vs Q E hr h => ?_)
  · obtain ⟨a, b, one, other, B, rfl, _⟩ := h
    rfl
  · obtain ⟨a, b, one, other, B, rfl, hA, hB, hlen, ht1, ht2, hlt, hb1, hb2, hM, q⟩ := h
    have OP := ok_prim (P := P) (w := w) (base := base) (k := k) L T G
    have OR := ok_rem (P := P) (w := w) (base := base) (k := k + 39) L T
    refine ⟨_, pss_cons (ps_par (i := 0) (j := 1) rfl scCf.nd rfl rfl (by decide) rfl rfl (pa_cons (pe_call OP hr (by rfl) L.prim.m L.prim.F.kp L.prim.b .nil pass0 (pa_cons (pv 0) pa_nil)) (pa_cons (pv 1) pa_nil)) rfl)
      (pss_cons (ps_while PassesOwn.never (pt_cmpR (op_neD hr.units) (pv 1) (pe_tup pa_nil) (nomark _))
        (pss_cons (ps_set (i := 1) scCf.nd rfl (.inl rfl) (pe_call OP hr (by rfl) L.prim.m L.prim.F.kp L.prim.b .nil pass0 (pa_cons (pv 1) pa_nil)))
          (pss_one (ps_par (i := 0) (j := 1) rfl scCf.nd rfl rfl (by decide) rfl rfl (pa_cons (pv 1) (pa_cons (pe_call OR hr (by rfl) L.rem.m L.rem.F.kp L.rem.b .nil pass0 (pa_cons (pv 0) (pa_cons (pv 1) pa_nil))) pa_nil)) rfl))))
      (pss_one (ps_ret (pv 0)))), ?_⟩
    refine ⟨_, rfl, a, one, rfl, .inr hA, hlen, fun H1 p s1 np hp => ⟨_, rfl, _, _, rfl, ?_⟩⟩
    have hpl := Yk.prim_len' ht1
    refine ⟨CfW H K (Yk.cfac one other) ((B + 1) * 3 ^ one.length), ⟨_, p, b, Yk.prim one, other, B, rfl, s1, np, hp, sameT s1 hB, rfl, ht2, by omega, by omega, hb1.prim, hb2, by rw [hpl]; exact Nat.le_refl _, other.length, Nat.le_refl _, rfl⟩, ?_⟩
    rintro m σ H2 ⟨a2, b2, x, y, B2, rfl, s2, na2, ea2, hb2', em, hty, hly, hx, hbx, hby, hW, n, hn, ec⟩
    refine ne_unit (i := 1) hb2' (fun p0 np0 => ⟨_, rfl, ?_⟩) rfl
    have s02 : Same H2 (upd H2 p0 (.tup [])) := sameU np0
    refine ite2 (fun hy0 => ?_) (fun hy0 => ?_)
    · have hy0 : y ≠ [] := of_decide_eq_true hy0
      refine ⟨fun σ' H' => ∃ m', m' < m ∧ CfW H K (Yk.cfac one other) ((B + 1) * 3 ^ one.length) m' σ' H', fun σ' H' h => h, ?_⟩
      have hpy := Yk.prim_len' hty
      have hld := Yk.prim_lead hty hy0
      have hne := Yk.lead_ne_nil hld
      obtain ⟨hr1, hr2⟩ := Yk.remd_len (one := x) hld
      have hBr := Yk.bd_remd hbx hby.prim hne
      have hst := Yk.pot_step hly hW
      refine ⟨_, rfl, b2, y, rfl, .inr (sameT s02 hb2'), by omega, fun H3 p3 s3 np3 hp3 => ?_⟩
      have s23 : Same H2 H3 := s02.trans s3
      have nH3 : H p3 = none := (s2.trans s02).free np3
      rw [hpy] at hBr hr1
      have e1 : 1 ≤ 3 ^ y.length := Nat.one_le_iff_ne_zero.mpr (Nat.pos_iff_ne_zero.mp (Nat.pow_pos (by decide)))
      have e2 := Nat.mul_le_mul_left (B2 + (x.length + 1 - y.length) * (B2 + 1) + 1) e1
      refine ⟨_, rfl, _, rfl, _, rfl, a2, p3, x, Yk.prim y, B2, rfl, .inr (SqT.of (s23 _ _ ea2)), SqT.of hp3, hne, hx, by omega, hbx, hby.prim, by rw [hpy]; omega, fun H4 p4 s4 np4 hp4 => ⟨_, _, rfl, ?_⟩⟩
      obtain ⟨n', rfl⟩ : ∃ n', n = n' + 1 := ⟨n - 1, by have := List.length_pos_iff.mpr hy0; omega⟩
      refine ⟨(Yk.remd x (Yk.prim y)).length, by omega, p3, p4, Yk.prim y, Yk.remd x (Yk.prim y), _, rfl, (s2.trans s23).trans s4, nH3, s4 _ _ hp3, SqT.of hp4, rfl, hr2, by omega, by omega, hby.prim.mono (Nat.le_add_right _ _), hBr, by rw [hpy]; exact hst, n', by omega, ?_⟩
      rw [← ec]
      show _ = (if y = [] then x else Yk.cloop n' (Yk.prim y) (Yk.remd x (Yk.prim y)))
      rw [if_neg hy0]
    · have hy0 : y = [] := Classical.not_not.mp fun z => hy0 (decide_eq_true z)
      subst hy0
      have e : Yk.cfac one other = x := by
        rw [← ec]
        cases n with
        | zero => rfl
        | succ n' => rfl
      rw [e] at q
      exact ⟨_, rfl, q _ a2 (s2.trans s02) na2 (s02 _ _ ea2)⟩
end
end Yw
end
section
set_option maxRecDepth 100000
set_option maxHeartbeats 4000000
namespace Yw
open PySem PySem.Spec PyProof.Rows L2 HT
theorem if_mid {cnd : Prop} [Decidable cnd] {t : TS} {D : Ends} {σ : L2.St} {H : Hp} (M : L2.St → Hp → Prop) (h1 : cnd → ∀ D' : Ends, (∀ σ' H', M σ' H' → D'.nx σ' H') → t D' σ H) (h2 : ¬ cnd → M σ H) (hM : ∀ σ' H', M σ' H' → D.nx σ' H') : if cnd then t D σ H else tNext D σ H := by
  by_cases c : cnd
  · rw [if_pos c]
    exact h1 c D hM
  · rw [if_neg c]
    exact hM _ _ (h2 c)
section
variable {P : Program} {w : World} {K : PySem.W.Frag} {mg : Str → Option Value} {base : Heap}
/-! ### quotient -/
theorem scQuot : FnScope ["one", "other", "k", "rest", "found", "at", "b", "a"] ["one", "other"] (defScope sQuot) := ⟨rfl, rfl, rfl, by decide +kernel, rfl, by decide +kernel, by decide +kernel⟩
def spQuot (K : PySem.W.Frag) : Sp := fun vs H Q _ => ∃ (a b : Addr) (one other : List Int) (A C : Nat), vs = [.ref a, .ref b] ∧ SqA K H a (iv one) ∧ SqT K H b (iv other) ∧ one.length ≤ 1000 ∧ Yk.lead other ≠ 0 ∧ other.length ≤ one.length ∧ Yk.Bd A one ∧ Yk.Bd C other ∧
  A + (one.length - other.length + 2) * (C + 1) < 134000000 ∧ ∀ H' p, Same H H' → H p = none → H' p = some (.tup (iv (Yk.quot one other))) → Q (.ref p) H'
abbrev teQ (K : PySem.W.Frag) : TE := tOp (rI CMulG fun i j => .int (i * j)) (tVar 7) (tOp (rIxT K) (tVar 1) (tUn (rU fun i => .int (-i)) (tC (.int 1))))
/-- the state ahead of turn t -/
def QW (a b : Addr) (one other : List Int) (N A C : Nat) (H : Hp) (t : Nat) (σ : L2.St) (H' : Hp) : Prop :=
  ∃ (r f : Addr) (st : List Int × List Int) (y2 y5 y6 y7 : Option V), σ = [some (.ref a), some (.ref b), y2, some (.ref r), some (.ref f), y5, y6, y7] ∧ Same H H' ∧ H r = none ∧ H f = none ∧ r ≠ f ∧ H' r = some (.lst (iv st.1)) ∧ H' f = some (.lst (iv st.2)) ∧
    st.1.length = one.length ∧ st.2.length = N ∧ t ≤ N ∧ Yk.qloop other (N - t) st = Yk.qloop other N (one, List.replicate N 0) ∧ Yk.Bd (A + t * (C + 1)) st.1 ∧ Yk.Bd (A + t * (C + 1)) st.2
def QM (a b : Addr) (other : List Int) (i : Nat) (st : List Int × List Int) (H : Hp) (σ : L2.St) (H' : Hp) : Prop :=
  ∃ (r f : Addr) (y2 y6 y7 : Option V), σ = [some (.ref a), some (.ref b), y2, some (.ref r), some (.ref f), some (.int (i : Nat)), y6, y7] ∧ Same H H' ∧ H r = none ∧ H f = none ∧ r ≠ f ∧ H' r = some (.lst (iv (Yk.qmid other i st).1)) ∧ H' f = some (.lst (iv (Yk.qmid other i st).2))
theorem qmid_len {other : List Int} {i : Nat} {st : List Int × List Int} : (Yk.qmid other i st).1.length = st.1.length ∧ (Yk.qmid other i st).2.length = st.2.length := by
  unfold Yk.qmid
  split
  · exact ⟨List.length_map _, List.length_map _⟩
  · exact ⟨rfl, rfl⟩
theorem ok_quot {k : Nat} (L : Lib K mg) (T : Txt mg) (G : Gd P base) : FnOk P w K mg base CX0 (k + 42) L.fQuot L.dQuot ["one", "other"] (spQuot K) := by
  refine L.quot.F.ok scQuot (fun vs H Q E h => ?_) (fun cdv A0 outer s H vs Q E hr h => ?_)
  · obtain ⟨a, b, one, other, A, C, rfl, _⟩ := h
    rfl
  · obtain ⟨a, b, one, other, A, C, rfl, hA, hB, hlen, hld, hle, hb1, hb2, hM, q⟩ := h
    have py := pyl_of (CX := CX0) (P := P) (w := w) (K := K) (mg := mg) (N := ["one", "other", "k", "rest", "found", "at", "b", "a"]) (H := H) (E := E) (outer := outer) (k := k + 7) G hr rfl rfl
    have py : Pyl (cxOf CX0 P w K mg base ["one", "other", "k", "rest", "found", "at", "b", "a"] "quotient" (defScope sQuot) L.fQuot cdv A0 outer s H E).nox := ⟨py.seer, py.tree, py.deep, py.run⟩
    have OP := ok_prim (P := P) (w := w) (base := base) (k := k) L T G
    refine ⟨_, pss_cons (ps_par (i := 3) (j := 4) rfl scQuot.nd rfl rfl (by decide) rfl rfl (pa_cons (pe_callTy call_list_of (by rfl) T.list boot_list (pa_cons (pv 0) pa_nil)) (pa_cons
        (pe_lc (own := [("k", 2)]) (g := gName 2) (tt := tYes) rfl scQuot.nd (pi_range1 (by rfl) T.range (pa_cons (pe_op op_add (pe_op op_sub (pe_callB call_len_seq (by rfl) T.len boot_len (pa_cons (pv 0) pa_nil)) (pe_callB call_len_seq (by rfl) T.len boot_len (pa_cons (pv 1) pa_nil))) pe_int) pa_nil))
          (blkOk_by (N := ["one", "other", "k", "rest", "found", "at", "b", "a"]) (sc := defScope sQuot) (by decide +kernel)) (fun _ _ _ _ _ => pg_name (i := 2) scQuot.nd rfl (Or.inl rfl)) (fun _ _ _ _ _ => pts_nil) (fun _ _ _ _ _ => pe_int)) pa_nil)) rfl)
      (pss_cons (ps_for PassesOwn.never rfl (pi_range3 (by rfl) T.range (pa_cons (pe_op op_sub (pe_callB call_len_seq (by rfl) T.len boot_len (pa_cons (pv 4) pa_nil)) pe_int) (pa_cons (pe_un un_neg pe_int) (pa_cons (pe_un un_neg pe_int) pa_nil)))) (pg_name (i := 5) scQuot.nd rfl (.inl rfl))
        (pss_cons (ps_if (pt_cmpR op_ne (pe_op op_modN (pe_ix ix_list (pv 3) (pe_op op_sub (pe_op op_add (pv 5) (pe_callB call_len_seq (by rfl) T.len boot_len (pa_cons (pv 1) pa_nil))) pe_int) (fun _ _ => rfl)) (pe_ix ix_tup (pv 1) (pe_un un_neg pe_int) (fun _ _ => rfl))) pe_int (nomark _))
          (pss_one (ps_par (i := 3) (j := 4) rfl scQuot.nd rfl rfl (by decide) rfl rfl (pa_cons
            (pe_lc (own := [("a", 7)]) (g := gName 7) (tt := tYes) (te := teQ K) rfl scQuot.nd (pi_list (pv 3)) (blkOk_by (N := ["one", "other", "k", "rest", "found", "at", "b", "a"]) (sc := defScope sQuot) (by decide +kernel)) (fun _ _ _ _ _ => pg_name (i := 7) scQuot.nd rfl (Or.inl rfl)) (fun _ _ _ _ _ => pts_nil)
              (fun _ _ _ _ _ => pe_op op_mulG (pv 7) (pe_ix ix_tup (pv 1) (pe_un un_neg pe_int) (fun _ _ => rfl)))) (pa_cons
            (pe_lc (own := [("a", 7)]) (g := gName 7) (tt := tYes) (te := teQ K) rfl scQuot.nd (pi_list (pv 4)) (blkOk_by (N := ["one", "other", "k", "rest", "found", "at", "b", "a"]) (sc := defScope sQuot) (by decide +kernel)) (fun _ _ _ _ _ => pg_name (i := 7) scQuot.nd rfl (Or.inl rfl)) (fun _ _ _ _ _ => pts_nil)
              (fun _ _ _ _ _ => pe_op op_mulG (pv 7) (pe_ix ix_tup (pv 1) (pe_un un_neg pe_int) (fun _ _ => rfl)))) pa_nil)) rfl)) pss_nil)
        (pss_cons (ps_asg (pe_op (op_divG py) (pe_ix ix_list (pv 3) (pe_op op_sub (pe_op op_add (pv 5) (pe_callB call_len_seq (by rfl) T.len boot_len (pa_cons (pv 1) pa_nil))) pe_int) (fun _ _ => rfl)) (pe_ix ix_tup (pv 1) (pe_un un_neg pe_int) (fun _ _ => rfl))) (pg_sub (pv 4) (pv 5) set_list))
        (pss_one (ps_for PassesOwn.never rfl (pi_enumT (by rfl) T.enumerate (pa_cons (pv 1) pa_nil)) (pg_tup rfl (pgs_cons (pg_name (i := 2) scQuot.nd rfl (.inl rfl)) (pgs_cons (pg_name (i := 6) scQuot.nd rfl (.inl rfl)) pgs_nil)))
          (pss_one (ps_asg (pe_op op_sub (pe_ix ix_list (pv 3) (pe_op op_add (pv 5) (pv 2)) (fun _ _ => rfl)) (pe_op op_mulG (pe_ix ix_list (pv 4) (pv 5) (fun _ _ => rfl)) (pv 6))) (pg_sub (pv 3) (pe_op op_add (pv 5) (pv 2)) set_list))))))))
      (pss_one (ps_ret (pe_call OP hr (by rfl) L.prim.m L.prim.F.kp L.prim.b .nil pass0 (pa_cons (pv 4) pa_nil))))), ?_⟩
    have ho0 := Yk.lead_ne_nil hld
    have ho1 := List.length_pos_iff.mpr ho0
    generalize hN : one.length - other.length + 1 = N
    have hMN : A + (N + 1) * (C + 1) < 134000000 := by
      rw [← hN]
      exact hM
    refine ⟨_, rfl, a, iv one, rfl, hA, fun r nr => ⟨_, rfl, a, iv one, rfl, sameA (sameU nr) hA, _, rfl, b, iv other, rfl, .inr (sameT (sameU nr) hB), _, _, rfl, rfl, _, _, rfl, rfl, ?_⟩⟩
    rw [iv_len, iv_len]
    have eN : ((one.length : Int) - (other.length : Int) + 1).toNat = N := by omega
    refine ⟨_, rfl, by omega, by omega, fun D hD => ?_⟩
    rw [eN]
    have hrD : r ≠ D := ne_of_none upd_same hD
    have hD0 : H D = none := (sameU nr).free hD
    refine lc_y hD (yl_range 0 N) (fun i => iv (List.replicate i 0)) rfl ?_ ?_
    · intro i x H3 H4 hi n3 s34 hx n4
      refine ⟨rfl, ny_app hD n4 (small1000 ?_) ?_⟩
      · rw [iv_len, List.length_replicate]
        omega
      · show iv (List.replicate (i + 1) 0) = _
        rw [List.replicate_succ', iv_snoc]
    intro H1 n1
    have s01 : Same H H1 := (sameU nr).trans n1.1
    refine ⟨_, _, rfl, ?_⟩
    -- range
    refine ⟨_, rfl, D, _, rfl, .inl (SqL.of n1.2), _, _, rfl, rfl, 1, rfl, 1, rfl, ?_⟩
    rw [iv_len, List.length_replicate]
    refine ⟨_, _, _, N, rfl, ?_, for_y (P := fun _ => True) (yl_rangeC _ _ _) (QW a b one other N A C H)
      ⟨r, D, (one, List.replicate N 0), _, _, _, _, rfl, s01, nr, hD0, hrD, n1.1 _ _ upd_same, n1.2, rfl, List.length_replicate, Nat.zero_le _, rfl, by rw [Nat.zero_mul]; exact hb1, Yk.bd_zeros _ _⟩ (fun _ _ _ _ => trivial) ?_ ?_⟩
    · have := RgC.neg (i := (N : Int) - 1) (j := -1) (by omega) (by omega) (by decide) (by decide)
      rw [show ((N : Int) - 1 - -1).toNat = N by omega] at this
      exact this
    · rintro t x σ' H2 H3 ht ⟨r, f, st, y2, y5, y6, y7, rfl, s2, nr, nf, hrf, er, ef, l1, l2, htN, eq, bd1, bd2⟩ s23 rfl
      obtain ⟨i, hi⟩ : ∃ i, N - t = i + 1 := ⟨N - t - 1, by omega⟩
      have eat : (N : Int) - 1 + (t : Nat) * -1 = (i : Nat) := by omega
      rw [eat]
      have hBT : ∀ {H'}, Same H H' → SqT K H' b (iv other) := fun s' => sameT s' hB
      have s3 : Same H H3 := s2.trans s23
      have er3 := s23 _ _ er
      have ef3 := s23 _ _ ef
      have hidx : ((i : Nat) : Int) + ((iv other).length : Int) - 1 = ((i + other.length - 1 : Nat) : Int) := by
        rw [iv_len]
        omega
      have hil : i + other.length - 1 < one.length := by omega
      have htm : t * (C + 1) + (C + 1) ≤ N * (C + 1) := by
        rw [← Nat.succ_mul]
        exact Nat.mul_le_mul_right _ ht
      rw [Nat.succ_mul] at hMN
      have hlb := Yk.bd_lead hb2
      refine ⟨_, rfl, _, rfl, _, rfl, b, iv other, rfl, .inr (hBT s3), _, _, rfl, rfl, _, _, rfl, rfl, r, iv st.1, _, _, rfl, rfl, SqL.of er3, atI_int hidx (by rw [l1]; exact hil), _, rfl, 1, rfl, b, iv other, -1, _, rfl, rfl, hBT s3, iv_last ho0, _, _, rfl, rfl, hld, rfl, _, rfl, ?_⟩
      refine if_mid (QM a b other i st H) (fun hc D' hD' => ?_) (fun hc => ?_) ?_
      · have hc' : (st.1.getD (i + other.length - 1) 0).fmod (Yk.lead other) ≠ 0 := fun z => by
          have hc2 : (!decide (V.int ((st.1.getD (i + other.length - 1) 0).fmod (Yk.lead other)) = V.int 0)) = true := hc
          rw [z] at hc2
          exact absurd hc2 (by decide)
        have em : Yk.qmid other i st = (st.1.map (fun x => x * Yk.lead other), st.2.map (fun x => x * Yk.lead other)) := by
          unfold Yk.qmid
          rw [if_pos hc']
        have elt : ∀ (l : List Int), Yk.Bd (A + t * (C + 1)) l → ∀ (σ0 : L2.St) (x : Int) (H' : Hp) (Q' : VK), σ0[1]? = some (some (.ref b)) → σ0[7]? = some (some (.int x)) → x ∈ l → Same H H' → Q' (.int (x * Yk.lead other)) H' → teQ K σ0 H' Q' := fun l hl σ0 x H' Q' h1 h7 hx s' hq =>
          ⟨_, h7, _, h1, 1, rfl, b, iv other, -1, _, rfl, rfl, hBT s', iv_last ho0, x, _, rfl, rfl, cmul_of (hl x hx) hlb (by omega), hq⟩
        refine ⟨_, rfl, r, rfl, ⟨_, SqL.of er3⟩, fun D1 hD1 => lc_map 7 hD1 (yl_list fun H' s' => SqL.of (s' _ _ er3)) (fun x => x * Yk.lead other) (by omega) (fun _ => rfl) (fun x H' Q' hx s' hq => elt st.1 bd1 _ x H' Q' rfl rfl hx (s3.trans s') hq) (fun H4 s4 e4 => ?_)⟩
        have ef4 := s4 _ _ ef3
        have er4 := s4 _ _ er3
        refine ⟨_, rfl, f, rfl, ⟨_, SqL.of ef4⟩, fun D2 hD2 => lc_map 7 hD2 (yl_list fun H' s' => SqL.of (s' _ _ ef4)) (fun x => x * Yk.lead other) (by omega) (fun _ => rfl) (fun x H' Q' hx s' hq => elt st.2 bd2 _ x H' Q' rfl rfl hx ((s3.trans s4).trans s') hq) (fun H5 s5 e5 => ?_)⟩
        refine ⟨_, _, rfl, hD' _ _ ⟨D1, D2, _, _, _, rfl, (s3.trans s4).trans s5, s3.free hD1, (s3.trans s4).free hD2, ne_of_none e4 hD2, ?_, ?_⟩⟩
        · rw [em]
          exact s5 _ _ e4
        · rw [em]
          exact e5
      · have hc' : ¬ (st.1.getD (i + other.length - 1) 0).fmod (Yk.lead other) ≠ 0 := fun z => hc (by
          show (!decide (V.int _ = V.int 0)) = true
          rw [decide_eq_false (fun e => z (V.int.inj e))]
          rfl)
        have em : Yk.qmid other i st = st := by
          unfold Yk.qmid
          rw [if_neg hc']
        exact ⟨r, f, _, _, _, rfl, s3, nr, nf, hrf, by rw [em]; exact er3, by rw [em]; exact ef3⟩
      · rintro σ' H4 ⟨r2, f2, z2, z6, z7, rfl, s4, nr2, nf2, hrf2, er4, ef4⟩
        obtain ⟨ql1, ql2⟩ := qmid_len (other := other) (i := i) (st := st)
        obtain ⟨qb1, qb2, qb3⟩ := Yk.bd_qmid (i := i) hld hb2 bd1 bd2
        obtain ⟨sb1, sb2⟩ := Yk.bd_qstep (i := i) hld hb2 bd1 bd2
        rw [Yk.qstep_eq] at sb1 sb2
        have est : Yk.qloop other i (Yk.subAt i (Yk.qnum other i st) other (Yk.qmid other i st).1, (Yk.qmid other i st).2.set i (Yk.qnum other i st)) = Yk.qloop other N (one, List.replicate N 0) := by
          rw [← eq, hi]
          rfl
        have eqn : ((Yk.qmid other i st).1.getD (i + other.length - 1) 0).fdiv (Yk.lead other) = Yk.qnum other i st := rfl
        generalize Yk.qnum other i st = qn at *
        generalize (Yk.qmid other i st).1 = m1 at *
        generalize (Yk.qmid other i st).2 = m2 at *
        refine ⟨_, rfl, _, rfl, _, rfl, b, iv other, rfl, .inr (hBT s4), _, _, rfl, rfl, _, _, rfl, rfl, r2, iv m1, _, _, rfl, rfl, SqL.of er4, atI_int hidx (by omega), _, rfl, 1, rfl, b, iv other, -1, _, rfl, rfl, hBT s4, iv_last ho0, _, _, rfl, rfl, hld, ?_⟩
        have eqn2 := eqn
        subst eqn2
        clear eqn
        generalize hqn : (m1.getD (i + other.length - 1) 0).fdiv (Yk.lead other) = qn at *
        refine ⟨_, rfl, _, rfl, f2, iv m2, _, i, rfl, rfl, ef4, ixN_int rfl (by rw [iv_len]; omega), ?_⟩
        refine for_enumV (j := 1) (xs := iv other) rfl (fun j σ' H' => ∃ y2 y6 y7, σ' = [some (.ref a), some (.ref b), y2, some (.ref r2), some (.ref f2), some (.int (i : Nat)), y6, y7] ∧ Same H H' ∧
          H' r2 = some (.lst (iv (Yk.subAt i qn (other.take j) m1))) ∧ H' f2 = some (.lst (iv (m2.set i qn)))) ⟨_, _, _, rfl, same_up s4 nf2, ?_, ?_⟩ (fun j σ' H' h => by
            obtain ⟨_, _, _, _, s', _⟩ := h
            exact hBT s') ?_ ?_
        · rw [upd_ne hrf2, List.take_zero, Yk.subAt_nil]
          exact er4
        · rw [upd_same, ← hqn]
          exact congrArg (fun z => some (HO.lst z)) List.map_set.symm
        · rintro j x T σ' H5 H6 hj ⟨w2, w6, w7, rfl, s5, e5, f5⟩ s56 hT hx
          obtain ⟨bv, hbv, rfl⟩ := iv_at hx
          rw [iv_len] at hj
          have e6 := s56 _ _ e5
          have f6 := s56 _ _ f5
          generalize hcur : Yk.subAt i qn (other.take j) m1 = cur at e6
          have hcl : cur.length = one.length := by rw [← hcur, Yk.subAt_len]; omega
          have hix : ((i : Nat) : Int) + ((j : Nat) : Int) = ((i + j : Nat) : Int) := by omega
          have hij : i + j < cur.length := by omega
          have hmem : bv ∈ other := List.mem_of_getElem? hbv
          refine ⟨T, _, rfl, SqT.of hT, rfl, _, _, rfl, _, _, rfl, rfl, ?_⟩
          refine ⟨_, rfl, _, rfl, _, rfl, _, _, rfl, rfl, r2, iv cur, _, _, rfl, rfl, SqL.of e6, atI_int hix hij, _, rfl, _, rfl, f2, iv (m2.set i qn), _, .int qn, rfl, rfl, SqL.of f6, ?_, _, rfl, qn, bv, rfl, rfl, cmul_of qb3 (hb2 bv hmem) (by omega), _, _, rfl, rfl, ?_⟩
          · have := atI_int (l := m2.set i qn) (n := i) (i := ((i : Nat) : Int)) rfl (by rw [List.length_set]; omega)
            rw [Yk.getD_set, if_pos ⟨rfl, by omega⟩] at this
            exact this
          refine ⟨_, rfl, _, rfl, _, rfl, _, _, rfl, rfl, r2, iv cur, _, i + j, rfl, rfl, e6, ixN_int hix (by rw [iv_len]; exact hij), ?_⟩
          refine ⟨_, _, _, rfl, same_up (s5.trans s56) nr2, ?_, ?_⟩
          · rw [upd_same, List.take_add_one, hbv]
            have e7 := Yk.subAt_snoc (n := i) (f := qn) (b := bv) (o := other.take j) (l := m1) (by rw [List.length_take]; omega)
            rw [show (other.take j).length = j by rw [List.length_take]; omega, hcur] at e7
            rw [show (some bv).toList = [bv] from rfl, e7]
            exact congrArg (fun z => some (HO.lst z)) List.map_set.symm
          · rw [upd_ne (fun z => hrf2 z.symm)]
            exact f6
        · rintro σ' H5 ⟨w2, w6, w7, rfl, s5, e5, f5⟩
          rw [iv_len, List.take_length] at e5
          refine ⟨r2, f2, (Yk.subAt i qn other m1, m2.set i qn), _, _, _, _, rfl, s5, nr2, nf2, hrf2, e5, f5, ?_, ?_, ht, ?_, ?_, ?_⟩
          · show (Yk.subAt i qn other m1).length = _
            rw [Yk.subAt_len]
            omega
          · show (m2.set i qn).length = _
            rw [List.length_set]
            omega
          · rw [show N - (t + 1) = i by omega]
            exact est
          · exact sb1.mono (by rw [Nat.succ_mul]; omega)
          · exact sb2.mono (by rw [Nat.succ_mul]; omega)
    · rintro σ' H2 ⟨r, f, st, y2, y5, y6, y7, rfl, s2, nr, nf, hrf, er, ef, l1, l2, htN, eq, bd1, bd2⟩
      rw [Nat.sub_self] at eq
      refine ⟨_, rfl, f, st.2, rfl, SqA.l ef, by omega, fun H5 p5 s5 np5 hp5 => q H5 p5 (s2.trans s5) (s2.free np5) ?_⟩
      rw [hp5]
      unfold Yk.quot
      rw [hN, ← eq]
      rfl
end
end Yw
end
section
set_option maxRecDepth 100000
set_option maxHeartbeats 4000000
namespace Yw
open PySem PySem.Spec PyProof.Rows L2 HT
section
variable {P : Program} {w : World} {K : PySem.W.Frag} {mg : Str → Option Value} {base : Heap}
/-! ### simple -/
theorem scSimple : FnScope ["some"] ["some"] (defScope sSimple) := ⟨rfl, rfl, rfl, by decide +kernel, rfl, by decide +kernel, by decide +kernel⟩
def spSimple (K : PySem.W.Frag) : Sp := fun vs H Q _ => ∃ (a : Addr) (f : List Int), vs = [.ref a] ∧ SqA K H a (iv f) ∧ f.length ≤ 8 ∧ Yk.Bd 20 f ∧ (∃ x ∈ f, x ≠ 0) ∧ ∀ H' p, Same H H' → H p = none → H' p = some (.tup (iv (Yk.simp1 f))) → Q (.ref p) H'
theorem ok_simple {k : Nat} (L : Lib K mg) (T : Txt mg) (G : Gd P base) : FnOk P w K mg base CX0 (k + 43) L.fSimple L.dSimple ["some"] (spSimple K) := by
  refine L.simple.F.ok scSimple (fun vs H Q E h => ?_) (fun cdv A outer s H vs Q E hr h => ?_)
  · obtain ⟨a, f, rfl, _⟩ := h
    rfl
  · obtain ⟨a, f, rfl, hA, hlen, hb, hnz, q⟩ := h
    have OP := ok_prim (P := P) (w := w) (base := base) (k := k + 1) L T G
    have OD := ok_der (P := P) (w := w) (base := base) (k := k + 40) L T
    have OC := ok_cf (P := P) (w := w) (base := base) (k := k) L T G
    have OQ := ok_quot (P := P) (w := w) (base := base) (k := k) L T G
    refine ⟨_, pss_cons (ps_set (i := 0) scSimple.nd rfl (.inl rfl) (pe_callTy call_list_of (by rfl) T.list boot_list (pa_cons (pe_call (ok_trim (k := k + 41) L.trim.F T) hr (by rfl) L.trim.m L.trim.F.kp L.trim.b .nil pass0 (pa_cons (pv 0) pa_nil)) pa_nil)))
      (pss_cons (ps_while PassesOwn.never (pt_cmpR op_eq (pe_ix ix_list (pv 0) pe_int (fun _ _ => rfl)) pe_int (nomark _))
        (pss_one (ps_expr (pe_bm PySem.F.plainAttrs_list PySem.F.slot_list_pop PySem.F.type_list_pop mt_popAt (pv 0) (pa_cons pe_int pa_nil)))))
      (pss_cons (ps_set (i := 0) scSimple.nd rfl (.inl rfl) (pe_call OP hr (by rfl) L.prim.m L.prim.F.kp L.prim.b .nil pass0 (pa_cons (pv 0) pa_nil)))
      (pss_cons (ps_if (pt_cmpR op_lt (pe_callB call_len_seq (by rfl) T.len boot_len (pa_cons (pv 0) pa_nil)) pe_int (nomark _)) (pss_one (ps_ret (pv 0))) pss_nil)
      (pss_one (ps_ret (pe_call OQ hr (by rfl) L.quot.m L.quot.F.kp L.quot.b .nil pass0 (pa_cons (pv 0) (pa_cons
        (pe_call OC hr (by rfl) L.cf.m L.cf.F.kp L.cf.b .nil pass0 (pa_cons (pv 0) (pa_cons (pe_call OD hr (by rfl) L.der.m L.der.F.kp L.der.b .nil pass0 (pa_cons (pv 0) pa_nil)) pa_nil))) pa_nil)))))))), ?_⟩
    refine ⟨_, rfl, a, f, rfl, hA, fun H1 p1 s1 np1 hp1 => ⟨p1, _, rfl, .inr (SqT.of hp1), fun r nr => ?_⟩⟩
    have C := Yk.core_ok hnz
    have hnt : ∃ x ∈ Yk.trim f, x ≠ 0 := by
      refine ⟨Yk.lead (Yk.trim f), ?_, ?_⟩
      · refine Yk.lead_mem (Yk.trim_lead f fun z => ?_)
        obtain ⟨x, hx, h0⟩ := hnz
        exact h0 (Yk.trim_nil z x hx)
      · refine Yk.trim_lead f fun z => ?_
        obtain ⟨x, hx, h0⟩ := hnz
        exact h0 (Yk.trim_nil z x hx)
    refine ⟨fun m σ H' => ∃ l : List Int, σ = [some (.ref r)] ∧ l.length = m ∧ Same H H' ∧ H' r = some (.lst (iv l)) ∧ Yk.strip l = Yk.strip (Yk.trim f) ∧ (∃ x ∈ l, x ≠ 0) ∧ l.length ≤ 8, ⟨_, Yk.trim f, rfl, rfl, s1.trans (sameU nr), upd_same, rfl, hnt, Nat.le_trans (Yk.trim_len f) hlen⟩, ?_⟩
    rintro m σ H2 ⟨l, rfl, em, s2, er, es, hl, hl8⟩
    obtain ⟨x, l', rfl⟩ : ∃ x l', l = x :: l' := by
      cases l with
      | nil => exact absurd hl (by simp)
      | cons x l' => exact ⟨x, l', rfl⟩
    have hr0 : H r = none := s1.free nr
    refine ⟨_, rfl, r, _, 0, .int x, rfl, rfl, SqL.of er, atI_nat (j := 0) rfl, rfl, _, rfl, ite2 (fun hx => ?_) (fun hx => ?_)⟩
    · have hx : x = 0 := V.int.inj (of_decide_eq_true hx)
      subst hx
      refine ⟨_, fun σ' H' (h : ∃ l, σ' = [some (.ref r)] ∧ l.length = l'.length ∧ Same H H' ∧ H' r = some (.lst (iv l)) ∧ Yk.strip l = Yk.strip (Yk.trim f) ∧ (∃ x ∈ l, x ≠ 0) ∧ l.length ≤ 8) => ⟨l'.length, by rw [← em]; exact Nat.lt_succ_self _, h⟩, ?_⟩
      refine ⟨_, rfl, .inl ⟨rfl, _, SqL.of er⟩, r, _, 0, 0, .int 0, rfl, rfl, er, by decide, by decide, (ixN_seq (ixN_int (m := 0) rfl (by rw [iv_len]; exact Nat.succ_pos _))).1, rfl, l', rfl, rfl, same_up s2 hr0, upd_same, es, ?_, ?_⟩
      · obtain ⟨y, hy, h0⟩ := hl
        rcases List.mem_cons.mp hy with z | z
        · exact absurd z h0
        · exact ⟨y, z, h0⟩
      · rw [List.length_cons] at hl8
        omega
    · have hx : x ≠ 0 := fun z => hx (decide_eq_true (by rw [z]))
      have es2 : x :: l' = Yk.strip (Yk.trim f) := by
        rw [← es]
        show _ = (if x = 0 then _ else _)
        rw [if_neg hx]
      refine ⟨_, rfl, r, x :: l', rfl, SqA.l er, by omega, fun H3 p3 s3 np3 hp3 => ?_⟩
      rw [es2] at hp3
      have s03 : Same H H3 := s2.trans s3
      have np03 : H p3 = none := s2.free np3
      have hcl := C.lead
      have hc20 : Yk.Bd 20 (Yk.core f) := hb.trim.strip.prim
      have hcl8 : (Yk.core f).length ≤ 8 := by
        rw [Yk.prim_len, ← es2]
        exact Nat.le_trans (Yk.trim_len _) hl8
      refine ⟨_, rfl, p3, _, rfl, .inr (SqT.of hp3), _, _, rfl, rfl, _, rfl, ?_⟩
      rw [iv_len]
      refine ite2 (fun hc => ?_) (fun hc => ?_)
      · have hc : (Yk.core f).length < 2 := by
          have h2 : ((Yk.core f).length : Int) < 2 := of_decide_eq_true hc
          omega
        have e : Yk.simp1 f = Yk.core f := by
          unfold Yk.simp1
          rw [if_pos hc]
        rw [e] at q
        exact ⟨_, rfl, q H3 p3 s03 np03 hp3⟩
      · have hc : ¬ (Yk.core f).length < 2 := fun z => hc (decide_eq_true (show ((Yk.core f).length : Int) < 2 by omega))
        have e : Yk.simp1 f = Yk.quot (Yk.core f) (Yk.cfac (Yk.core f) (Yk.deriv (Yk.core f))) := by
          unfold Yk.simp1
          rw [if_neg hc]
        rw [e] at q
        obtain ⟨d1, d2⟩ := Yk.ev_deriv_lead hcl (by omega)
        have hd : Yk.Bd 23 (Yk.deriv (Yk.core f)) := Yk.bd_deriv hc20 hcl8
        have h3 : 3 ^ (Yk.core f).length ≤ 3 ^ 8 := Nat.pow_le_pow_right (by decide) hcl8
        obtain ⟨γ, g1, g2⟩ := Yk.bd_cfac (W := 157464) (hc20.mono (by decide)) hd (by omega) (.inr hcl) (.inr d1) (Yk.lead_ne_nil d1) (by omega)
        obtain ⟨cf, cl⟩ := Yk.cfac_ok hcl (.inr d1) (by omega : (Yk.deriv (Yk.core f)).length ≤ (Yk.core f).length)
        have hgl := cf.lead
        refine ⟨_, rfl, _, rfl, _, rfl, p3, Yk.core f, 20, rfl, SqT.of hp3, by omega, hc20, by decide, fun H4 p4 s4 np4 hp4 => ?_⟩
        refine ⟨p3, p4, Yk.core f, Yk.deriv (Yk.core f), 23, rfl, SqT.of (s4 _ _ hp3), SqT.of hp4, by omega, .inr hcl, .inr d1, by omega, hc20.mono (by decide), hd, by omega, fun H5 p5 s5 np5 hp5 => ?_⟩
        have e8 : (Yk.core f).length - (Yk.cfac (Yk.core f) (Yk.deriv (Yk.core f))).length + 2 ≤ 10 := by omega
        have e9 := Nat.mul_le_mul_right (γ + 1) e8
        refine ⟨p3, p5, Yk.core f, _, 20, γ, rfl, .inr (SqT.of (s5 _ _ (s4 _ _ hp3))), SqT.of hp5, by omega, hgl, cl, hc20, g1, by omega, fun H6 p6 s6 np6 hp6 => q H6 p6 (((s03.trans s4).trans s5).trans s6) (((s03.trans s4).trans s5).free np6) hp6⟩
end
end Yw
end
section
set_option maxRecDepth 100000
set_option maxHeartbeats 4000000
namespace Yw
open PySem PySem.Spec PyProof.Rows L2 HT
/-! ### a list of tuples of ints -/
abbrev Prs (K : PySem.W.Frag) (H : Hp) (ps : List Addr) (c : List (List Int)) : Prop := Paired (fun p l => SqT K H p (iv l)) ps c
theorem Prs.same {K : PySem.W.Frag} {H H' : Hp} {ps : List Addr} {c : List (List Int)} (h : Prs K H ps c) (s : Same H H') : Prs K H' ps c := Paired.mono (fun _ _ q => sameT s q) h
theorem paired_get {α β : Type} {F : α → β → Prop} : ∀ {xs : List α} {ys : List β} {i : Nat} {x : α}, Paired F xs ys → xs[i]? = some x → ∃ y, ys[i]? = some y ∧ F x y
  | _, _, _, _, .nil, h => by simp at h
  | _, _, 0, _, .cons r _, h => ⟨_, rfl, by
      have e := Option.some.inj (show some _ = some _ from h)
      subst e
      exact r⟩
  | _, _, i + 1, x, .cons _ t, h => by
    obtain ⟨y, h1, h2⟩ := paired_get (i := i) t (by simpa using h)
    exact ⟨y, by simpa using h1, h2⟩
def rf (ps : List Addr) : List V := ps.map V.ref
theorem rf_at {ps : List Addr} {i : Nat} {x : V} (h : (rf ps)[i]? = some x) : ∃ p, ps[i]? = some p ∧ x = .ref p := by
  unfold rf at h
  rw [List.getElem?_map] at h
  cases e : ps[i]? with
  | none =>
    rw [e] at h
    cases h
  | some b =>
    rw [e] at h
    exact ⟨b, rfl, (Option.some.inj h).symm⟩
def ChL (K : PySem.W.Frag) (H : Hp) (a : Addr) (c : List (List Int)) : Prop := ∃ ps : List Addr, H a = some (.lst (rf ps)) ∧ Prs K H ps c
theorem atI_neg2 {α : Type} (xs : List α) (u v : α) : atI (xs ++ [u, v]) (-2) = some u := by
  have hl : (xs ++ [u, v]).length = xs.length + 2 := by simp
  have e : ixN (xs ++ [u, v]).length (-2) = some xs.length := by
    unfold ixN
    rw [hl, if_neg (by decide), if_pos (by omega)]
    congr 1
    omega
  unfold atI
  rw [e]
  show (xs ++ [u, v])[xs.length]? = some u
  simp
theorem atI_neg1 {α : Type} (xs : List α) (u v : α) : atI (xs ++ [u, v]) (-1) = some v := by
  have := atI_last (xs ++ [u]) v
  rw [List.append_assoc] at this
  exact this
/-- what is kept of the first i -/
def kept (ps : List Addr) (c : List (List Int)) : List Addr := ((ps.zip c).filter (fun x => decide (x.2 ≠ []))).map (·.1)
theorem kept_ok {F : Addr → List Int → Prop} : ∀ {ps : List Addr} {c : List (List Int)}, Paired F ps c → Paired F (kept ps c) (c.filter (fun one => decide (one ≠ [])))
  | _, _, .nil => .nil
  | p :: ps, l :: c, .cons r t => by
    have ih := kept_ok t
    unfold kept at ih ⊢
    rw [List.zip_cons_cons, List.filter_cons, List.filter_cons]
    by_cases z : l ≠ []
    · rw [if_pos (decide_eq_true z), if_pos (decide_eq_true z)]
      exact .cons r ih
    · rw [if_neg (fun e => z (of_decide_eq_true e)), if_neg (fun e => z (of_decide_eq_true e))]
      exact ih
theorem zip_take {α β : Type} : ∀ (i : Nat) (l : List α) (m : List β), (l.take i).zip (m.take i) = (l.zip m).take i
  | 0, _, _ => by simp
  | _ + 1, [], _ => by simp
  | _ + 1, _ :: _, [] => by simp
  | i + 1, a :: l, b :: m => by
    have := zip_take i l m
    simp [this]
theorem sqt_upd {K : PySem.W.Frag} {H : Hp} {p r : Addr} {xs l l' : List V} (h : SqT K H p xs) (e : H r = some (.lst l)) : SqT K (upd H r (.lst l')) p xs := by
  rcases h with (h | ⟨o, h⟩) | h
  · refine .inl (.inl ?_)
    rw [upd_ne (ne_of h e (by intro z; cases z))]
    exact h
  · refine .inl (.inr ⟨o, ?_⟩)
    rw [upd_ne (ne_of h e (by intro z; cases z))]
    exact h
  · exact .inr h
theorem rf_app (ps : List Addr) (u v : Addr) : rf (ps ++ [u, v]) = rf ps ++ [V.ref u, V.ref v] := by simp [rf]
theorem deriv_lt {s : List Int} (h : s ≠ []) : (Yk.deriv s).length < s.length := by
  have := List.length_pos_iff.mpr h
  refine Nat.lt_of_le_of_lt (Yk.trim_len _) ?_
  rw [List.length_drop, Yk.dmul_len]
  omega
theorem zip_take_succ {ps : List Addr} {c : List (List Int)} {i : Nat} {p : Addr} {l : List Int} (h1 : ps[i]? = some p) (h2 : c[i]? = some l) : kept (ps.take (i + 1)) (c.take (i + 1)) = kept (ps.take i) (c.take i) ++ (if l ≠ [] then [p] else []) := by
  unfold kept
  have e : (ps.take (i + 1)).zip (c.take (i + 1)) = (ps.take i).zip (c.take i) ++ [(p, l)] := by
    rw [zip_take, zip_take, List.take_add_one]
    have : (ps.zip c)[i]? = some (p, l) := by
      rw [List.getElem?_zip_eq_some]
      exact ⟨h1, h2⟩
    rw [this]
    rfl
  rw [e, List.filter_append, List.map_append]
  congr 1
  by_cases z : l ≠ []
  · rw [if_pos z]
    simp [z]
  · rw [if_neg z]
    simp [z]
theorem kept_len (ps : List Addr) (c : List (List Int)) : (kept ps c).length ≤ ps.length := by
  unfold kept
  rw [List.length_map]
  refine Nat.le_trans (List.length_filter_le _ _) ?_
  rw [List.length_zip]
  exact Nat.min_le_left _ _
section
variable {P : Program} {w : World} {K : PySem.W.Frag} {mg : Str → Option Value} {base : Heap}
/-! ### chain_of -/
theorem scChain : FnScope ["some", "found", "a", "one"] ["some"] (defScope sChain) := ⟨rfl, rfl, rfl, by decide +kernel, rfl, by decide +kernel, by decide +kernel⟩
def spChain (K : PySem.W.Frag) : Sp := fun vs H Q _ => ∃ (a : Addr) (s : List Int) (B : Nat), vs = [.ref a] ∧ SqT K H a (iv s) ∧ Yk.lead s ≠ 0 ∧ s.length ≤ 400 ∧ Yk.Bd B s ∧ Yk.Bd B (Yk.deriv s) ∧ B + 10 < 134000000 ∧ (B + 1) * 3 ^ s.length < 1206000000 ∧
  ∀ H' p, Same H H' → H p = none → ChL K H' p (Yk.chain s) → Q (.ref p) H'
def ChW (K : PySem.W.Frag) (y0 : Option V) (s : List Int) (W : Nat) (H : Hp) (m : Nat) (σ : L2.St) (H' : Hp) : Prop :=
  ∃ (r pa qa : Addr) (ps : List Addr) (pre : List (List Int)) (p q : List Int) (n B : Nat) (y2 y3 : Option V), σ = [y0, some (.ref r), y2, y3] ∧ Same H H' ∧ H r = none ∧ H' r = some (.lst (rf (ps ++ [pa, qa]))) ∧ Prs K H' ps pre ∧ SqT K H' pa (iv p) ∧ SqT K H' qa (iv q) ∧
    pre ++ Yk.chl n p q = Yk.chl s.length s (Yk.deriv s) ∧ q.length ≤ n ∧ q.length = m ∧ q.length < p.length ∧ pre.length + q.length ≤ 400 ∧ p.length ≤ 400 ∧ Yk.Trm q ∧ Yk.Bd B p ∧ Yk.Bd B q ∧ (B + 1) * 3 ^ p.length ≤ W
theorem ok_chain {k : Nat} (L : Lib K mg) (T : Txt mg) (G : Gd P base) : FnOk P w K mg base CX0 (k + 42) L.fChain L.dChain ["some"] (spChain K) := by
  refine L.chain.F.ok scChain (fun vs H Q E h => ?_) (fun cdv A outer s0 H vs Q E hr h => ?_)
  · obtain ⟨a, s, B, rfl, _⟩ := h
    rfl
  · obtain ⟨a, s, B, rfl, hA, hld, hlen, hb1, hb2, hB, hM, q⟩ := h
    have OP := ok_prim (P := P) (w := w) (base := base) (k := k) L T G
    have OD := ok_der (P := P) (w := w) (base := base) (k := k + 39) L T
    have OR := ok_rem (P := P) (w := w) (base := base) (k := k + 39) L T
    refine ⟨_, pss_cons (ps_set (i := 1) scChain.nd rfl (.inl rfl) (pe_lst (pa_cons (pv 0) (pa_cons (pe_call OD hr (by rfl) L.der.m L.der.F.kp L.der.b .nil pass0 (pa_cons (pv 0) pa_nil)) pa_nil))))
      (pss_cons (ps_while PassesOwn.never (pt_cmpR op_gt (pe_callB call_len_seq (by rfl) T.len boot_len (pa_cons (pe_ix ix_list (pv 1) (pe_un un_neg pe_int) (fun _ _ => rfl)) pa_nil)) pe_int (nomark _))
        (pss_one (ps_expr (pe_bm PySem.F.plainAttrs_list PySem.F.slot_list_append PySem.F.type_list_append mt_append (pv 1) (pa_cons
          (pe_callTy call_tuple_of (by rfl) T.tuple boot_tuple (pa_cons
            (pe_lc (own := [("a", 2)]) (g := gName 2) (tt := tYes) rfl scChain.nd (pi_tup (pe_call OP hr (by rfl) L.prim.m L.prim.F.kp L.prim.b .nil pass0 (pa_cons
                (pe_call OR hr (by rfl) L.rem.m L.rem.F.kp L.rem.b .nil pass0 (pa_cons (pe_ix ix_list (pv 1) (pe_un un_neg pe_int) (fun _ _ => rfl)) (pa_cons (pe_ix ix_list (pv 1) (pe_un un_neg pe_int) (fun _ _ => rfl)) pa_nil))) pa_nil)))
              (blkOk_by (N := ["some", "found", "a", "one"]) (sc := defScope sChain) (by decide +kernel)) (fun _ _ _ _ _ => pg_name (i := 2) scChain.nd rfl (Or.inl rfl)) (fun _ _ _ _ _ => pts_nil) (fun _ _ _ _ _ => pe_op op_sub pe_int (pv 2))) pa_nil)) pa_nil)))))
      (pss_one (ps_ret (pe_lc (own := [("one", 3)]) (g := gName 3) (te := tVar 3) rfl scChain.nd (pi_list (pv 1)) (blkOk_by (N := ["some", "found", "a", "one"]) (sc := defScope sChain) (by decide +kernel)) (fun _ _ _ _ _ => pg_name (i := 3) scChain.nd rfl (Or.inl rfl))
        (tt := tTest (tOp (rNeD K) (tVar 3) (tTup tNil))) (fun _ _ _ _ _ => pts_one (pt_cmpR (op_neD hr.units) (pv 3) (pe_tup pa_nil) (nomark _))) (fun _ _ _ _ _ => pv 3))))), ?_⟩
    have hs0 := Yk.lead_ne_nil hld
    have hdl := deriv_lt hs0
    refine ⟨_, rfl, _, rfl, a, s, B, rfl, hA, by omega, hb1, hB, fun H1 p1 s1 np1 hp1 => ⟨Nat.le_of_lt (small1000 (n := 2) (by decide)), fun r nr => ?_⟩⟩
    have s01 : Same H (upd H1 r (.lst [.ref a, .ref p1])) := same_up s1 (s1.free nr)
    refine ⟨ChW K (some (.ref a)) s ((B + 1) * 3 ^ s.length) H, ⟨_, r, a, p1, [], [], s, Yk.deriv s, s.length, B, none, none, rfl, s01, s1.free nr, upd_same, .nil, sameT s01 hA, SqT.of (by rw [upd_ne (ne_of_none hp1 nr)]; exact hp1), rfl, by omega, rfl, hdl, by simp; omega, by omega, Yk.trm_trim _, hb1, hb2, Nat.le_refl _⟩, ?_⟩
    rintro m σ H2 ⟨r, pa, qa, ps, pre, x, y, n, β, y2, y3, rfl, s2, hr0, er, hpre, hx, hy, eq, hyn, em, hlt, hl4, hx4, hty, hbx, hby, hW⟩
    have e1 : atI (rf (ps ++ [pa, qa])) (-1) = some (.ref qa) := by
      rw [rf_app]
      exact atI_neg1 _ _ _
    have e2 : atI (rf (ps ++ [pa, qa])) (-2) = some (.ref pa) := by
      rw [rf_app]
      exact atI_neg2 _ _ _
    refine ⟨_, rfl, 1, rfl, r, _, -1, .ref qa, rfl, rfl, SqL.of er, e1, qa, iv y, rfl, .inr hy, _, _, rfl, rfl, _, rfl, ?_⟩
    rw [iv_len]
    refine ite2 (fun hc => ?_) (fun hc => ?_)
    · have hc : 1 < y.length := by
        have h2 : (1 : Int) < (y.length : Int) := of_decide_eq_true hc
        omega
      have hy0 : y ≠ [] := fun z => by
        rw [z] at hc
        cases hc
      have hyl := hty.resolve_left hy0
      obtain ⟨hr1, hr2⟩ := Yk.remd_len (one := x) hyl
      have hBr := Yk.bd_remd hbx hby hy0
      have hst := Yk.pot_step hlt hW
      have hm : 9 ≤ 3 ^ y.length := Nat.pow_le_pow_right (n := 3) (by decide) (show 2 ≤ y.length by omega)
      have w9 := Nat.le_trans (Nat.mul_le_mul_left _ hm) hst
      obtain ⟨n', rfl⟩ : ∃ n', n = n' + 1 := ⟨n - 1, by omega⟩
      refine ⟨fun σ' H' => ∃ m', m' < m ∧ ChW K (some (.ref a)) s ((B + 1) * 3 ^ s.length) H m' σ' H', fun σ' H' h => h, ?_⟩
      refine ⟨_, rfl, .inl ⟨rfl, _, SqL.of er⟩, _, rfl, 2, rfl, r, _, -2, .ref pa, rfl, rfl, SqL.of er, e2, _, rfl, 1, rfl, r, _, -1, .ref qa, rfl, rfl, SqL.of er, e1, pa, qa, x, y, β, rfl, .inr hx, hy, hy0, by omega, by omega, hbx, hby, by omega, fun H3 p3 s3 np3 hp3 => ?_⟩
      refine ⟨p3, _, rfl, .inr (SqT.of hp3), by omega, fun H4 p4 s4 np4 hp4 => ⟨p4, rfl, ⟨_, SqT.of hp4⟩, fun D hD => lc_map 2 hD (yl_tup fun H' s' => SqT.of (s' _ _ hp4)) (fun z => 0 - z) ?_ (fun _ => rfl) (fun z H' Q' hz s' hq => ⟨_, rfl, _, _, rfl, rfl, hq⟩) (fun H5 s5 e5 => ⟨D, _, rfl, .inl ⟨SqL.of e5, fun t nt => ?_⟩⟩)⟩⟩
      · rw [Yk.prim_len' hr2]
        omega
      · have s25 : Same H2 H5 := (s3.trans s4).trans s5
        have s26 : Same H2 (upd H5 t (.tup (iv ((Yk.prim (Yk.remd x y)).map (fun z => 0 - z))))) := s25.trans (sameU nt)
        have er6 := s26 _ _ er
        refine ⟨r, _, .ref t, rfl, rfl, er6, ?_, ?_⟩
        · have := hpre.length
          refine small1000 ?_
          simp [rf]
          omega
        · have hnl : (Yk.negl (Yk.prim (Yk.remd x y))).length = (Yk.remd x y).length := by rw [Yk.negl_len, Yk.prim_len' hr2]
          refine ⟨(Yk.remd x y).length, by omega, r, qa, t, ps ++ [pa], pre ++ [x], y, Yk.negl (Yk.prim (Yk.remd x y)), n', _, _, _, rfl, same_up (s2.trans s26) hr0, hr0, ?_, ?_, sqt_upd (sameT s26 hy) er6, ?_, ?_, by omega, hnl, by omega, ?_, by omega, Yk.trm_negl (Yk.prim_trm _), hby.mono (Nat.le_add_right _ _), Yk.bd_negl hBr.prim, hst⟩
          · rw [upd_same]
            simp [rf]
          · exact Paired.mono (fun _ _ q => sqt_upd q er6) ((hpre.same s26).snoc (sameT s26 hx))
          · refine SqT.of ?_
            rw [upd_ne (ne_of upd_same er6 (by intro z; cases z)), upd_same]
            rfl
          · rw [← eq, List.append_assoc]
            show pre ++ (x :: Yk.chl n' y (Yk.negl (Yk.prim (Yk.remd x y)))) = pre ++ (if 1 < y.length then _ else _)
            rw [if_pos hc]
          · rw [List.length_append]
            simp
            omega
    · have hc : ¬ 1 < y.length := fun z => hc (decide_eq_true (show (1 : Int) < (y.length : Int) by omega))
      have ec : pre ++ [x, y] = Yk.chl s.length s (Yk.deriv s) := by
        rw [← eq]
        cases n with
        | zero => rfl
        | succ n' =>
          show _ = pre ++ (if 1 < y.length then _ else _)
          rw [if_neg hc]
      have hP : Prs K H2 (ps ++ [pa, qa]) (pre ++ [x, y]) := by
        have := (hpre.snoc hx).snoc hy
        rw [List.append_assoc, List.append_assoc] at this
        exact this
      refine ⟨_, rfl, r, rfl, ⟨_, SqL.of er⟩, fun D hD => ?_⟩
      have hlen : (rf (ps ++ [pa, qa])).length = (ps ++ [pa, qa]).length := List.length_map _
      refine lc_y hD (yl_list fun H' s' => SqL.of (s' _ _ er)) (fun i => rf (kept ((ps ++ [pa, qa]).take i) ((pre ++ [x, y]).take i))) rfl ?_ ?_
      · intro i v H3 H4 hi n3 s34 hv n4
        obtain ⟨p5, hp5, rfl⟩ := rf_at hv
        obtain ⟨l, hl, hT⟩ := paired_get hP hp5
        refine ⟨rfl, ne_unit (i := 3) (sameT n4.1 hT) (fun p6 np6 => ⟨_, rfl, ?_⟩) rfl⟩
        have hd6 : D ≠ p6 := ne_of_none n4.2 np6
        have n6 : Ny H2 D (rf (kept ((ps ++ [pa, qa]).take i) ((pre ++ [x, y]).take i))) (upd H4 p6 (.tup [])) := ⟨n4.1.trans (sameU np6), by rw [upd_ne hd6]; exact n4.2⟩
        have ek := zip_take_succ hp5 hl
        refine ite2 (fun z => ?_) (fun z => ?_)
        · rw [if_pos (of_decide_eq_true z)] at ek
          refine ⟨_, rfl, ny_app hD n6 (small1000 ?_) ?_⟩
          · have h1 := kept_len ((ps ++ [pa, qa]).take i) ((pre ++ [x, y]).take i)
            have h2 := hpre.length
            rw [List.length_take, List.length_append] at h1
            simp [rf] at h1 ⊢
            omega
          · rw [ek]
            simp [rf]
        · rw [if_neg (fun e => z (decide_eq_true e)), List.append_nil] at ek
          show Ny H2 D (rf (kept ((ps ++ [pa, qa]).take (i + 1)) ((pre ++ [x, y]).take (i + 1)))) _
          rw [ek]
          exact n6
      · intro H3 n3
        rw [hlen, List.take_length, hP.length, List.take_length] at n3
        refine q H3 D (s2.trans n3.1) (s2.free hD) ⟨_, n3.2, ?_⟩
        unfold Yk.chain
        rw [← ec]
        exact kept_ok (hP.same n3.1)
end
end Yw
end
section
set_option maxRecDepth 100000
set_option maxHeartbeats 4000000
namespace Yk
theorem vof_len_bits {C T : Nat} {t b : Int} (ht : t.natAbs < 2 ^ T) (hb : b.natAbs < 2 ^ T) : ∀ l : List Int, Bd C l → (vof l t b).1.natAbs < 2 ^ (C + l.length * (T + 1) + 1) ∧ (vof l t b).2.natAbs < 2 ^ (l.length * T + 1)
  | [], _ => ⟨Nat.pow_pos (by decide), by show (1 : Nat) < _; simp⟩
  | a :: l, h => by
    obtain ⟨h1, h2⟩ := vof_len_bits ht hb l (fun x hx => h x (List.mem_cons_of_mem _ hx))
    have e1 : C + (a :: l).length * (T + 1) + 1 = (C + l.length * (T + 1) + 1 + T) + 1 := by
      rw [List.length_cons, Nat.succ_mul]
      omega
    have e2 : (a :: l).length * T + 1 = l.length * T + 1 + T := by
      rw [List.length_cons, Nat.succ_mul]
      omega
    refine ⟨?_, ?_⟩
    · rw [e1]
      refine add_lt (mul_lt h1 ht) ?_
      refine Nat.lt_of_lt_of_le (mul_lt (h a List.mem_cons_self) h2) (pow_le ?_)
      have : l.length * T ≤ l.length * (T + 1) := Nat.mul_le_mul_left _ (Nat.le_succ _)
      omega
    · rw [e2]
      exact mul_lt h2 hb
theorem sgs_snoc (l : List Int) (v : Int) : sgs (l ++ [v]) = sgs l ++ (if v ≠ 0 then [sg v] else []) := by
  unfold sgs
  rw [List.filter_append, List.map_append]
  congr 1
  by_cases z : v ≠ 0
  · rw [if_pos z]
    simp [z]
  · rw [if_neg z]
    simp [z]
theorem sgs_len (l : List Int) : (sgs l).length ≤ l.length := by
  unfold sgs
  rw [List.length_map]
  exact List.length_filter_le _ _
def dif (l : List Int) (k : Nat) : Bool := decide (l.getD k 0 ≠ l.getD (k + 1) 0)
theorem cntd_len : ∀ l : List Int, ((List.range (l.length - 1)).filter (dif l)).length = cntd l
  | [] => rfl
  | [a] => rfl
  | a :: b :: l => by
    have ih := cntd_len (b :: l)
    have e : (a :: b :: l).length - 1 = l.length + 1 := rfl
    have e' : (b :: l).length - 1 = l.length := rfl
    rw [e'] at ih
    rw [e, List.range_succ_eq_map, List.filter_cons, List.filter_map]
    have hd : dif (a :: b :: l) ∘ Nat.succ = dif (b :: l) := by
      funext k
      show decide ((a :: b :: l).getD (k + 1) 0 ≠ (a :: b :: l).getD (k + 1 + 1) 0) = decide ((b :: l).getD k 0 ≠ (b :: l).getD (k + 1) 0)
      rw [getD_cons_succ, getD_cons_succ]
    rw [hd]
    have h0 : dif (a :: b :: l) 0 = decide (a ≠ b) := rfl
    rw [h0]
    show _ = (if a ≠ b then 1 else 0) + cntd (b :: l)
    by_cases z : a ≠ b
    · rw [if_pos (decide_eq_true z), if_pos z, List.length_cons, List.length_map, ih]
      omega
    · rw [if_neg (fun q => z (of_decide_eq_true q)), if_neg z, List.length_map, ih]
      omega
end Yk
namespace Yw
open PySem PySem.Spec PyProof.Rows L2 HT
section
variable {P : Program} {w : World} {K : PySem.W.Frag} {mg : Str → Option Value} {base : Heap}
/-! ### value_of -/
theorem scVal : FnScope ["some", "place", "found", "scale", "a"] ["some", "place"] (defScope sVal) := ⟨rfl, rfl, rfl, by decide +kernel, rfl, by decide +kernel, by decide +kernel⟩
/-- a place: two ints, their bits -/
def Plc (K : PySem.W.Frag) (H : Hp) (p : Addr) (t b : Int) (T : Nat) : Prop := SqT K H p [.int t, .int b] ∧ t.natAbs < 2 ^ T ∧ b.natAbs < 2 ^ T
theorem Plc.same {H H' : Hp} {p : Addr} {t b : Int} {T : Nat} (h : Plc K H p t b T) (s : Same H H') : Plc K H' p t b T := ⟨sameT s h.1, h.2⟩
def spVal (K : PySem.W.Frag) : Sp := fun vs H Q _ => ∃ (a p : Addr) (xs : List Int) (t b : Int) (C T : Nat), vs = [.ref a, .ref p] ∧ SqT K H a (iv xs) ∧ Plc K H p t b T ∧ Yk.Bd C xs ∧ xs.length ≤ 1000 ∧ C + (xs.length + 1) * (T + 1) < 134000000 ∧ ∀ H', Same H H' → Q (.int (Yk.val xs t b)) H'
theorem ok_val {k : Nat} (L : Lib K mg) (T : Txt mg) : FnOk P w K mg base CX0 (k + 1) L.fVal L.dVal ["some", "place"] (spVal K) := by
  refine L.val.F.ok scVal (fun vs H Q E h => ?_) (fun cdv A outer s H vs Q E hr h => ?_)
  · obtain ⟨a, p, xs, t, b, C, B, rfl, _⟩ := h
    rfl
  · obtain ⟨a, p, xs, t, b, C, B, rfl, hA, ⟨hp, ht, hb⟩, hc, hlen, hM, q⟩ := h
    refine ⟨_, pss_cons (ps_asg (pe_tup (pa_cons pe_int (pa_cons pe_int pa_nil))) (pg_tup rfl (pgs_cons (pg_name (i := 2) scVal.nd rfl (.inl rfl)) (pgs_cons (pg_name (i := 3) scVal.nd rfl (.inl rfl)) pgs_nil))))
      (pss_cons (ps_for PassesOwn.never rfl (pi_tup (pe_revT (pv 0))) (pg_name (i := 4) scVal.nd rfl (.inl rfl))
        (pss_one (ps_par (i := 2) (j := 3) rfl scVal.nd rfl rfl (by decide) rfl rfl (pa_cons (pe_op op_add (pe_op op_mulG (pv 2) (pe_ix ix_tup (pv 1) pe_int (fun _ _ => rfl))) (pe_op op_mulG (pv 4) (pv 3))) (pa_cons (pe_op op_mulG (pv 3) (pe_ix ix_tup (pv 1) pe_int (fun _ _ => rfl))) pa_nil)) rfl)))
      (pss_one (ps_ret (pv 2)))), ?_⟩
    refine ⟨Nat.le_of_lt (small1000 (n := 2) (by decide)), fun p0 np0 => ⟨p0, _, rfl, SqT.of upd_same, rfl, _, _, rfl, _, _, rfl, rfl, ?_⟩⟩
    have s0 : Same H (upd H p0 (.tup [.int 0, .int 1])) := sameU np0
    refine ⟨_, rfl, a, iv xs, rfl, sameT s0 hA, fun r nr => ?_⟩
    have sr : Same H (upd (upd H p0 (.tup [.int 0, .int 1])) r (.tup (iv xs).reverse)) := s0.trans (sameU nr)
    refine ⟨r, rfl, ⟨_, SqT.of upd_same⟩, for_y (P := fun H' => Same (upd (upd H p0 (.tup [.int 0, .int 1])) r (.tup (iv xs).reverse)) H') (yl_tup fun H' s' => SqT.of (s' _ _ upd_same))
      (fun i σ H' => ∃ y, σ = [some (.ref a), some (.ref p), some (.int (Yk.vof (xs.drop (xs.length - i)) t b).1), some (.int (Yk.vof (xs.drop (xs.length - i)) t b).2), y] ∧ Same (upd (upd H p0 (.tup [.int 0, .int 1])) r (.tup (iv xs).reverse)) H') ⟨none, ?_, Same.refl _⟩ (fun i σ H' h => h.choose_spec.2) ?_ ?_⟩
    · rw [Nat.sub_zero, List.drop_length]
      rfl
    · rintro i x σ' H1 H2 hi ⟨y, rfl, s1⟩ s12 hx
      rw [List.length_reverse, iv_len] at hi
      have hx' : xs[xs.length - 1 - i]? = some (xs.getD (xs.length - 1 - i) 0) := by
        rw [List.getD_eq_getElem?_getD, List.getElem?_eq_getElem (by omega)]
        rfl
      have ex : x = .int (xs.getD (xs.length - 1 - i) 0) := by
        rw [List.getElem?_reverse (by rw [iv_len]; exact hi), iv_len] at hx
        obtain ⟨b', h1, h2⟩ := iv_at hx
        rw [hx'] at h1
        rw [h2, Option.some.inj h1]
      subst ex
      have ed : xs.drop (xs.length - (i + 1)) = xs.getD (xs.length - 1 - i) 0 :: xs.drop (xs.length - i) := by
        have e1 : xs.length - (i + 1) = xs.length - 1 - i := by omega
        have e2 : xs.length - i = xs.length - 1 - i + 1 := by omega
        rw [e1, e2]
        have := List.getElem?_eq_some_iff.mp hx'
        obtain ⟨h1, h2⟩ := this
        rw [← h2]
        exact List.drop_eq_getElem_cons h1
      have hbd : Yk.Bd C (xs.drop (xs.length - i)) := hc.drop _
      obtain ⟨v1, v2⟩ := Yk.vof_len_bits ht hb _ hbd
      rw [List.length_drop, show xs.length - (xs.length - i) = i by omega] at v1 v2
      have hcx : (xs.getD (xs.length - 1 - i) 0).natAbs < 2 ^ C := Yk.bd_getD hc _
      have s2 : Same H H2 := (sr.trans s1).trans s12
      have m1 : (i + 2) * (B + 1) ≤ (xs.length + 1) * (B + 1) := Nat.mul_le_mul_right _ (by omega)
      rw [Nat.succ_mul, Nat.succ_mul] at m1
      have m2 : i * B ≤ i * (B + 1) := Nat.mul_le_mul_left _ (Nat.le_succ _)
      refine ⟨_, rfl, _, rfl, p, _, 0, .int t, rfl, rfl, sameT s2 hp, atI_nat (j := 0) rfl, _, t, rfl, rfl, cmul_of v1 ht (by omega), _, rfl, _, rfl, _, _, rfl, rfl, cmul_of hcx v2 (by omega), _, _, rfl, rfl, _, rfl, _, rfl, p, _, 1, .int b, rfl, rfl, sameT s2 hp, atI_nat (j := 1) rfl, _, b, rfl, rfl, cmul_of v2 hb (by omega), _, _, rfl, some (.int (xs.getD (xs.length - 1 - i) 0)), ?_, s1.trans s12⟩
      rw [ed]
      rfl
    · rintro σ' H1 ⟨y, rfl, s1⟩
      rw [List.length_reverse, iv_len, Nat.sub_self, List.drop_zero]
      exact ⟨_, rfl, q _ (sr.trans s1)⟩
/-! ### changes_at -/
theorem scChg : FnScope ["chain", "place", "values", "signs", "one", "value", "k"] ["chain", "place"] (defScope sChg) := ⟨rfl, rfl, rfl, by decide +kernel, rfl, by decide +kernel, by decide +kernel⟩
/-- the chain's tuples are short and small -/
def Cok (C : Nat) (c : List (List Int)) : Prop := c.length ≤ 1000 ∧ ∀ o ∈ c, Yk.Bd C o ∧ o.length ≤ 8
theorem ChL.same {H H' : Hp} {a : Addr} {c : List (List Int)} (h : ChL K H a c) (s : Same H H') : ChL K H' a c := by
  obtain ⟨ps, e, p⟩ := h
  exact ⟨ps, s _ _ e, p.same s⟩
def spChg (K : PySem.W.Frag) : Sp := fun vs H Q _ => ∃ (a p : Addr) (c : List (List Int)) (t b : Int) (C T : Nat), vs = [.ref a, .ref p] ∧ ChL K H a c ∧ Plc K H p t b T ∧ Cok C c ∧ C + 9 * (T + 1) < 134000000 ∧ ∀ H', Same H H' → Q (.int (Yk.chgs c t b : Nat)) H'
theorem ok_chg {k : Nat} (L : Lib K mg) (T : Txt mg) : FnOk P w K mg base CX0 (k + 2) L.fChg L.dChg ["chain", "place"] (spChg K) := by
  refine L.chg.F.ok scChg (fun vs H Q E h => ?_) (fun cdv A outer s H vs Q E hr h => ?_)
  · obtain ⟨a, p, c, t, b, C, B, rfl, _⟩ := h
    rfl
  · obtain ⟨a, p, c, t, b, C, B, rfl, ⟨ps, ea, hP⟩, hp, ⟨hcl, hcb⟩, hM, q⟩ := h
    have OV := ok_val (P := P) (w := w) (base := base) (k := k) L T
    refine ⟨_, pss_cons (ps_setLc (i := 2) (own := [("one", 4)]) (g := gName 4) (tt := tYes) (te := tCall (spVal K) [] E0 (tCons (tVar 4) (tCons (tVar 1) tNil))) rfl scChg.nd rfl rfl (sw_true rfl rfl rfl (by decide +kernel)) (pi_list (pv 0)) (blkOk_by (N := ["chain", "place", "values", "signs", "one", "value", "k"]) (sc := defScope sChg) (by decide +kernel))
          (fun _ _ _ _ _ => pg_name (i := 4) scChg.nd rfl (Or.inl rfl)) (fun _ _ _ _ _ => pts_nil) (fun _ _ _ _ _ => pe_call OV hr (by rfl) L.val.m L.val.F.kp L.val.b .nil pass0 (pa_cons (pv 4) (pa_cons (pv 1) pa_nil))))
      (pss_cons (ps_set (i := 3) scChg.nd rfl (.inr rfl) (pe_lc (own := [("value", 5)]) (g := gName 5) rfl scChg.nd (pi_list (pv 2)) (blkOk_by (N := ["chain", "place", "values", "signs", "one", "value", "k"]) (sc := defScope sChg) (by decide +kernel))
          (fun _ _ _ _ _ => pg_name (i := 5) scChg.nd rfl (Or.inl rfl)) (tt := tTest (tOp rNe (tVar 5) (tC (.int 0)))) (fun _ _ _ _ _ => pts_one (pt_cmpR op_ne (pv 5) pe_int (nomark _)))
          (te := tIf (tTest (tOp (rI0 fun i j => .bl (decide (j < i))) (tVar 5) (tC (.int 0)))) (tC (.int 1)) (tUn (rU fun i => .int (-i)) (tC (.int 1)))) (fun _ _ _ _ _ => pe_ifExp (pt_cmpR op_gt (pv 5) pe_int (nomark _)) pe_int (pe_un un_neg pe_int))))
      (pss_one (ps_ret (pe_callB call_len_seq (by rfl) T.len boot_len (pa_cons
        (pe_lc (own := [("k", 6)]) (g := gName 6) rfl scChg.nd (pi_range1 (by rfl) T.range (pa_cons (pe_op op_sub (pe_callB call_len_seq (by rfl) T.len boot_len (pa_cons (pv 3) pa_nil)) pe_int) pa_nil)) (blkOk_by (N := ["chain", "place", "values", "signs", "one", "value", "k"]) (sc := defScope sChg) (by decide +kernel))
          (fun _ _ _ _ _ => pg_name (i := 6) scChg.nd rfl (Or.inl rfl)) (tt := tTest (tOp rNe (tOp (rIxL K) (tVar 3) (tVar 6)) (tOp (rIxL K) (tVar 3) (tOp (rI0 fun i j => .int (i + j)) (tVar 6) (tC (.int 1))))))
          (fun _ _ _ _ _ => pts_one (pt_cmpR op_ne (pe_ix ix_list (pv 3) (pv 6) (fun _ _ => rfl)) (pe_ix ix_list (pv 3) (pe_op op_add (pv 6) pe_int) (fun _ _ => rfl)) (nomark _))) (te := tVar 6) (fun _ _ _ _ _ => pv 6)) pa_nil))))), ?_⟩
    have hpl := hP.length
    have hrl : (rf ps).length = ps.length := List.length_map _
    refine ⟨_, rfl, a, rfl, ⟨_, SqL.of ea⟩, fun D hD => lc_y hD (yl_list fun H' s' => SqL.of (s' _ _ ea)) (fun i => iv ((c.map fun o => Yk.val o t b).take i)) rfl ?_ ?_⟩
    · intro i v H3 H4 hi n3 s34 hv n4
      obtain ⟨p5, hp5, rfl⟩ := rf_at hv
      obtain ⟨l, hl, hT⟩ := paired_get hP hp5
      obtain ⟨b1, b2⟩ := hcb l (List.mem_of_getElem? hl)
      have m1 : (l.length + 1) * (B + 1) ≤ 9 * (B + 1) := Nat.mul_le_mul_right _ (by omega)
      refine ⟨rfl, _, rfl, _, rfl, p5, p, l, t, b, C, B, rfl, sameT n4.1 hT, hp.same n4.1, b1, by omega, by omega, fun H5 s5 => ny_app hD ⟨n4.1.trans s5, s5 _ _ n4.2⟩ (small1000 ?_) ?_⟩
      · rw [iv_len, List.length_take, List.length_map]
        omega
      · refine iv_take_succ ?_
        rw [List.getElem?_map, hl]
        rfl
    intro H1 n1
    rw [hrl, hpl, List.take_of_length_le (by rw [List.length_map]; exact Nat.le_refl _)] at n1
    generalize hvals : (c.map fun o => Yk.val o t b) = vals at n1
    have hvl : vals.length ≤ 1000 := by
      rw [← hvals, List.length_map]
      exact hcl
    refine ⟨_, rfl, D, rfl, ⟨_, SqL.of n1.2⟩, fun D2 hD2 => lc_y hD2 (yl_list fun H' s' => SqL.of (s' _ _ n1.2)) (fun i => iv (Yk.sgs (vals.take i))) rfl ?_ ?_⟩
    · intro i v H3 H4 hi n3 s34 hv n4
      obtain ⟨x, hx, rfl⟩ := iv_at hv
      have ek : Yk.sgs (vals.take (i + 1)) = Yk.sgs (vals.take i) ++ (if x ≠ 0 then [Yk.sg x] else []) := by
        rw [List.take_add_one, hx]
        exact Yk.sgs_snoc _ _
      refine ⟨rfl, _, rfl, rfl, _, rfl, ite2 (fun z => ?_) (fun z => ?_)⟩
      · have z : x ≠ 0 := fun e => by
          have z2 : (!decide (V.int x = V.int 0)) = true := z
          rw [e] at z2
          exact absurd z2 (by decide)
        rw [if_pos z] at ek
        have fin : ∀ {ac : Int}, ac = Yk.sg x → ∃ ac', H4 D2 = some (.lst ac') ∧ ac'.length < sizeLine ∧ Ny H1 D2 (iv (Yk.sgs (vals.take (i + 1)))) (upd H4 D2 (.lst (ac' ++ [V.int ac]))) := fun {ac} e => ny_app hD2 n4 (small1000 (by
          rw [iv_len]
          refine Nat.le_trans (Yk.sgs_len _) ?_
          rw [List.length_take]
          omega)) (by rw [ek, iv_snoc, e])
        refine ⟨_, rfl, _, _, rfl, rfl, _, rfl, ite2 (fun y => ?_) (fun y => ?_)⟩
        · refine fin ?_
          unfold Yk.sg
          rw [if_pos (of_decide_eq_true y)]
        · refine ⟨1, rfl, fin ?_⟩
          unfold Yk.sg
          rw [if_neg (fun e => y (decide_eq_true e))]
      · have z : ¬ x ≠ 0 := fun e => z (by
          show (!decide (V.int x = V.int 0)) = true
          rw [decide_eq_false (fun e2 => e (V.int.inj e2))]
          rfl)
        rw [if_neg z, List.append_nil] at ek
        show Ny H1 D2 (iv (Yk.sgs (vals.take (i + 1)))) H4
        rw [ek]
        exact n4
    intro H2 n2
    rw [iv_len, List.take_length] at n2
    have hsl := Yk.sgs_len vals
    have ec : Yk.chgs c t b = Yk.cntd (Yk.sgs vals) := by rw [← hvals]; rfl
    rw [ec] at q
    generalize Yk.sgs vals = sgn at *
    refine ⟨_, rfl, D2, _, rfl, .inl (SqL.of n2.2), _, _, rfl, rfl, ?_⟩
    rw [iv_len]
    refine ⟨_, rfl, by omega, by omega, fun D3 hD3 => ?_⟩
    have eN : ((sgn.length : Int) - 1).toNat = sgn.length - 1 := by omega
    rw [eN]
    refine lc_y hD3 (yl_range 0 _) (fun i => iv (((List.range i).filter (Yk.dif sgn)).map fun k => ((k : Nat) : Int))) rfl ?_ ?_
    · intro i x H3 H4 hi n3 s34 hx n4
      subst hx
      have es := SqL.of (K := K) (n4.1 _ _ n2.2)
      have e0 : (0 : Int) + ((i : Nat) : Int) = ((i : Nat) : Int) := by omega
      rw [e0]
      have ek : (List.range (i + 1)).filter (Yk.dif sgn) = (List.range i).filter (Yk.dif sgn) ++ (if Yk.dif sgn i = true then [i] else []) := by
        rw [List.range_succ, List.filter_append, List.filter_cons, List.filter_nil]
      refine ⟨rfl, _, rfl, _, rfl, D2, _, _, _, rfl, rfl, es, atI_int rfl (show i < sgn.length by omega), _, rfl, _, rfl, _, _, rfl, rfl, D2, _, _, _, rfl, rfl, es, atI_int (n := i + 1) (by omega) (by omega), rfl, _, rfl, ite2 (fun z => ?_) (fun z => ?_)⟩
      · have z : Yk.dif sgn i = true := by
          have z2 : (!decide (V.int (sgn.getD i 0) = V.int (sgn.getD (i + 1) 0))) = true := z
          refine decide_eq_true fun e => ?_
          rw [e, decide_eq_true rfl] at z2
          cases z2
        rw [if_pos z] at ek
        refine ⟨_, rfl, ny_app hD3 n4 (small1000 ?_) ?_⟩
        · rw [iv_len, List.length_map]
          refine Nat.le_trans (List.length_filter_le _ _) ?_
          rw [List.length_range]
          omega
        · rw [ek, List.map_append]
          exact iv_snoc _ _
      · have z : ¬ Yk.dif sgn i = true := fun e => z (by
          show (!decide (V.int (sgn.getD i 0) = V.int (sgn.getD (i + 1) 0))) = true
          rw [decide_eq_false (fun e2 => of_decide_eq_true e (V.int.inj e2))]
          rfl)
        rw [if_neg z, List.append_nil] at ek
        show Ny H2 D3 (iv (((List.range (i + 1)).filter (Yk.dif sgn)).map fun k => ((k : Nat) : Int))) H4
        rw [ek]
        exact n4
    · intro H3 n3
      refine ⟨D3, _, rfl, .inl (SqL.of n3.2), ?_⟩
      rw [iv_len, List.length_map, Yk.cntd_len]
      exact q H3 ((n1.1.trans n2.1).trans n3.1)
/-! ### roots_in -/
theorem scRoots : FnScope ["chain", "low", "high"] ["chain", "low", "high"] (defScope sRoots) := ⟨rfl, rfl, rfl, by decide +kernel, rfl, by decide +kernel, by decide +kernel⟩
def spRoots (K : PySem.W.Frag) : Sp := fun vs H Q _ => ∃ (a p r : Addr) (c : List (List Int)) (t b u d : Int) (C T : Nat), vs = [.ref a, .ref p, .ref r] ∧ ChL K H a c ∧ Plc K H p t b T ∧ Plc K H r u d T ∧ Cok C c ∧ C + 9 * (T + 1) < 134000000 ∧
  ∀ H', Same H H' → Q (.int ((Yk.chgs c t b : Nat) - (Yk.chgs c u d : Nat))) H'
theorem ok_roots {k : Nat} (L : Lib K mg) (T : Txt mg) : FnOk P w K mg base CX0 (k + 3) L.fRoots L.dRoots ["chain", "low", "high"] (spRoots K) := by
  refine L.roots.F.ok scRoots (fun vs H Q E h => ?_) (fun cdv A outer s H vs Q E hr h => ?_)
  · obtain ⟨a, p, r, c, t, b, u, d, C, B, rfl, _⟩ := h
    rfl
  · obtain ⟨a, p, r, c, t, b, u, d, C, B, rfl, ha, hp, hq, hc, hM, q⟩ := h
    have OC := ok_chg (P := P) (w := w) (base := base) (k := k) L T
    refine ⟨_, pss_one (ps_ret (pe_op op_sub (pe_call OC hr (by rfl) L.chg.m L.chg.F.kp L.chg.b .nil pass0 (pa_cons (pv 0) (pa_cons (pv 1) pa_nil))) (pe_call OC hr (by rfl) L.chg.m L.chg.F.kp L.chg.b .nil pass0 (pa_cons (pv 0) (pa_cons (pv 2) pa_nil))))), ?_⟩
    refine ⟨_, rfl, _, rfl, a, p, c, t, b, C, B, rfl, ha, hp, hc, hM, fun H1 s1 => ?_⟩
    refine ⟨_, rfl, _, rfl, a, r, c, u, d, C, B, rfl, ha.same s1, hq.same s1, hc, hM, fun H2 s2 => ?_⟩
    exact ⟨_, _, rfl, rfl, q H2 (s1.trans s2)⟩
end
end Yw
end
section
set_option maxRecDepth 100000
set_option maxHeartbeats 4000000
namespace Yw
open PySem PySem.Spec PyProof.Rows L2 HT
/-- a def whose code object is known -/
theorem fun_okC {CX : CXT} {P : Program} {w : World} {K : PySem.W.Frag} {mg : Str → Option Value} {base : Heap} {x qual : Str} {st : Stmt} {f c : Addr} {fd : FuncData} {N ps : List Str} {k : Nat} {sp : Sp} (F : L2.Fun K x qual st f fd) (hc : fd.code = .ref c) (S : FnScope N ps (defScope st)) (len : ∀ vs H Q E, sp vs H Q E → vs.length = ps.length)
    (hbody : ∀ (A : Around) (outer : List Env) (s : Shared) (H : Hp) (vs : List V) (Q : VK) (E : XK), Room k (A.deeper (envOfC qual (defScope st) s.heap.objs.size f (.ref c))) → sp vs H Q E →
      ∃ t, PSs (cxOf CX P w K mg base N qual (defScope st) f (.ref c) A outer s H E) (defBody st) t ∧ t { nx := fun _ H' => Q .non H', rt := Q } (L2.start N vs) H) : FnOk P w K mg base CX (k + 1) f fd ps sp := by
  obtain ⟨oc, od, kV, doc, pm, an, cdv, ct, osl, rfl, lk, hcd⟩ := F.ex
  have hc : cdv = .ref c := hc
  subst hc
  exact fn_of lk hcd S len fun A outer s H vs Q E hr hsp => hbody A outer s H vs Q E hr hsp
/-- the element is_in(one, 0 - MOST_PAYMENT, MOST_PAYMENT) -/
theorem elt_isin {X : Cx} {scope : Scope} {a : Str} {g : Addr} {gd : FuncData} {p1 p2 p3 p4 p5 p6 pos : Pos} {j : Nat} (G : L2.Fun X.K "is_in" "is_in" sIsIn g gd) (mG : X.mg "is_in" = some (.ref g)) (T : Txt X.mg) (hr : X.A.depth + 1 < recursionLimit) (hk : scope.kind = .function) (hl : scope.names.lookup a = some .local)
    (h1 : scope.names.lookup ("is_in" : Str) = some .globalImplicit) (h2 : scope.names.lookup ("MOST_PAYMENT" : Str) = some .globalImplicit) (hd : (a == ("__debug__" : Str)) = false := by decide) :
    EltN X scope a (.Call (.Name "is_in" p1) [.Name a p2, .BinOp (.Constant (.int 0) j p3) .Sub (.Name "MOST_PAYMENT" p4) p5, .Name "MOST_PAYMENT" p6] [] pos) (fun n y => y = .bool (decide (0 - 1000000 ≤ n) && decide (n ≤ 1000000))) := by
  intro M0 cenv A' E' n t s2 m2 hs hgl hbl hA hD hU hb hn hv
  obtain ⟨tv, hmv⟩ := T.mostV
  have glb : ∀ {x : Str} {p : Pos} {v : Value} {s : Shared} {Q : Value → Shared → Prop}, scope.names.lookup x = some .globalImplicit → X.mg x = some v → (∀ b o, X.base.get? b = some o → s.heap.get? b = some o) → Q v s → (x == ("__debug__" : Str)) = false → wpAny (model X.prog X.w) A' (eval (.Name x p) cenv) Q E' s :=
    fun hx hm hbs hq hdb => nm_glob (mg := X.mg) (by rw [hs]; exact hk) (show cenv.scope.names.lookup _ = _ by rw [hs]; exact hx) (by rw [hgl]; exact M0.glob.keeps hbs) hm hq hdb
  refine wpAny_Call_Name_kw (glb h1 mG hb ?_ (by decide))
  refine PySem.W.callWith_K (h₀ := X.base) M0.kin G.kp ?_ (by rfl) (by rfl)
  show wpAny _ _ (spliced ((false, eval (.Name a p2) cenv) :: backTo pos (starEach [.BinOp (.Constant (.int 0) j p3) .Sub (.Name "MOST_PAYMENT" p4) p5, .Name "MOST_PAYMENT" p6] cenv))) _ _ s2
  refine Calls.spliced_cons (nm_loc (by rw [hs]; exact hk) (show cenv.scope.names.lookup a = _ by rw [hs]; exact hl) hn hv ?_ hd)
  show wpAny _ _ (spliced ((false, eval (.BinOp (.Constant (.int 0) j p3) .Sub (.Name "MOST_PAYMENT" p4) p5) cenv) :: backTo pos (starEach [.Name "MOST_PAYMENT" p6] cenv))) _ _ s2
  refine Calls.spliced_cons (wpAny_BinOp (wpAny_Constant_int (glb h2 hmv hb (sub_int ?_) (by decide))))
  show wpAny _ _ (spliced ((false, eval (.Name "MOST_PAYMENT" p6) cenv) :: backTo pos (starEach [] cenv))) _ _ _
  refine Calls.spliced_cons (glb h2 hmv hb ?_ (by decide))
  refine Calls.spliced_nil ⟨M0.kin.keeps hb, ?_⟩
  refine wpAny_call (codeAny_mono (isin_run (P := X.prog) (w := X.w) (base := X.base) G M0 T.isinstance T.int T.bool hb (by omega)) fun r s' h => ?_)
  obtain ⟨rfl, kp⟩ := h
  exact ⟨rfl, keeps_trans ⟨s2.heap, _, rfl, fun _ _ e => e⟩ kp⟩
theorem genS_by {env : Env} {scope : Scope} {x : Str} (h1 : scope.kind = .function) (h2 : scope.isCoroutine = false) (h3 : scope.names.lookup (".0" : Str) = some NameKind.local) (h4 : scope.names.lookup x = some .local) (h5 : (scope.names.all fun y => decide (y.2 ≠ .free) && decide (y.2 ≠ .cell)) = true) : GxR.GenS env scope x := by
  rw [List.all_eq_true] at h5
  refine ⟨h1, h2, fun y hy => ?_, h3, h4, fun y hy e => ?_⟩
  · have := h5 y hy
    rw [Bool.and_eq_true] at this
    exact of_decide_eq_true this.2
  · have := h5 y hy
    rw [Bool.and_eq_true] at this
    exact absurd e (of_decide_eq_true this.1)
/-- the tables of the defs that hold a generator expression -/
structure Tbs (base : Heap) (mg : Str → Option Value) (cN pN cB pB : Addr) : Prop where
  n : LamX.TabB base mg cN pN
  b : LamX.TabB base mg cB pB
section
variable {P : Program} {w : World} {K : PySem.W.Frag} {mg : Str → Option Value} {base : Heap}
/-! ### need_payments -/
theorem scNeedP : FnScope ["payments"] ["payments"] (defScope sNeedP) := ⟨rfl, rfl, rfl, by decide +kernel, rfl, by decide +kernel, by decide +kernel⟩
def spNeedP (K : PySem.W.Frag) (pN : Addr) : Sp := fun vs H Q _ => ∃ (a : Addr) (xs : List Int), vs = [.ref a] ∧ H a = some (.tup (iv xs)) ∧ xs.length ≤ 40 ∧ (∀ x ∈ xs, -1000000 ≤ x ∧ x ≤ 1000000) ∧ Tb H pN ∧ ∀ H', TbOnly pN H H' → Q .non H'
theorem ok_needP {k : Nat} {cN pN : Addr} (L : Lib K mg) (T : Txt mg) (hc : L.dNeedP.code = .ref cN) (TB : LamX.TabB base mg cN pN) : FnOk P w K mg base CX0 (k + 1) L.fNeedP L.dNeedP ["payments"] (spNeedP K pN) := by
  refine fun_okC L.needP.F hc scNeedP (fun vs H Q E h => ?_) (fun A outer s H vs Q E hr h => ?_)
  · obtain ⟨a, xs, rfl, _⟩ := h
    rfl
  · obtain ⟨a, xs, rfl, hA, hlen, hx, hT, q⟩ := h
    obtain ⟨tm, hm⟩ := T.mostP
    refine ⟨_, (pss_cons (ps_if (pw_or (pt_not (pt_val (pe_callB call_isi (by rfl) T.isinstance boot_isinstance (pa_cons (pv 0) (pa_cons (pe_bltn (by rfl) T.tuple boot_tuple (v := .ty "tuple") rfl) pa_nil)))))
        (pw_or1 (pt_cmpR op_gt (pe_callB call_len_seq (by rfl) T.len boot_len (pa_cons (pv 0) pa_nil)) (pe_glob (by rfl) hm (v := .int 40) ⟨_, rfl⟩) (nomark _)))).pt (pss_one ps_never) pss_nil)
      (pss_one (ps_if (pt_not (pt_val (pe_allG (pb := fun n => decide (0 - 1000000 ≤ n) && decide (n ≤ 1000000)) hr (by rfl) T.all TB rfl (genS_by rfl rfl (by rfl) (by rfl) (by decide +kernel)) (pv 0)
          (elt_isin L.isin.F L.isin.m T (by have := hr.dp; show (A.deeper _).depth + 1 < recursionLimit; omega) (by rfl) (by rfl) (by rfl) (by rfl)) (fun _ => rfl)))) (pss_one ps_never) pss_nil))).nox, ?_⟩
    refine ⟨_, rfl, .ref a, .ty "tuple", .type "tuple", .type "tuple", true, rfl, .ty _, .base (.tup hA), kit_ty (by decide +kernel), true, rfl, iteF ?_⟩
    refine ⟨_, rfl, a, _, rfl, .inr (SqT.of hA), _, 40, rfl, rfl, _, rfl, ?_⟩
    rw [iv_len]
    refine ite2 (fun z => ?_) (fun z => ?_)
    · have z2 : (40 : Int) < (xs.length : Int) := of_decide_eq_true z
      omega
    · refine ⟨_, rfl, a, xs, rfl, SqT.of hA, hT, fun H2 h2 => ⟨_, rfl, ?_⟩⟩
      have e : (xs.all fun n => decide (0 - 1000000 ≤ n) && decide (n ≤ 1000000)) = true := by
        rw [List.all_eq_true]
        intro x h
        have := hx x h
        rw [Bool.and_eq_true]
        exact ⟨decide_eq_true (by omega), decide_eq_true (by omega)⟩
      rw [e]
      exact iteF (q H2 h2)
/-! ### bound_of -/
theorem scBound : FnScope ["some", "a"] ["some"] (defScope sBound) := ⟨rfl, rfl, rfl, by decide +kernel, rfl, by decide +kernel, by decide +kernel⟩
def spBound (K : PySem.W.Frag) (pB : Addr) : Sp := fun vs H Q _ => ∃ (a : Addr) (xs : List Int), vs = [.ref a] ∧ SqT K H a (iv xs) ∧ xs ≠ [] ∧ Tb H pB ∧ ∀ H' p, (∀ b, b ≠ pB → b ≠ p → H' b = H b) → Tb H' pB → H p = none → p ≠ pB → H' p = some (.tup [.int (Yk.bnd xs), .int 1]) → Q (.ref p) H'
theorem hgt_is : ∀ {l : List Int} {m : Int}, m ∈ l.map (fun n => if n < 0 then -n else n) → (∀ y ∈ l, (if y < 0 then -y else y) ≤ m) → Yk.hgt l = m := by
  intro l m hm hy
  have h1 : Yk.hgt l ≤ m := by
    have : ∀ l : List Int, 0 ≤ m → (∀ y ∈ l, (if y < 0 then -y else y) ≤ m) → Yk.hgt l ≤ m := by
      intro l
      induction l with
      | nil => intro h0 _; exact h0
      | cons a l ih =>
        intro h0 h
        have h2 := ih h0 fun y hy => h y (List.mem_cons_of_mem _ hy)
        have h3 := h a List.mem_cons_self
        have e : Yk.hgt (a :: l) = (max a.natAbs ((l.map Int.natAbs).foldr max 0) : Nat) := rfl
        unfold Yk.hgt at h2
        rw [e]
        split at h3 <;> omega
    refine this l ?_ hy
    obtain ⟨b, hb, rfl⟩ := List.mem_map.mp hm
    split <;> omega
  have h2 : m ≤ Yk.hgt l := by
    obtain ⟨b, hb, rfl⟩ := List.mem_map.mp hm
    have := Yk.hgt_mem l b hb
    split <;> omega
  omega
theorem ok_bound {k : Nat} {cB pB : Addr} (L : Lib K mg) (T : Txt mg) (hc : L.dBound.code = .ref cB) (TB : LamX.TabB base mg cB pB) : FnOk P w K mg base CX0 (k + 1) L.fBound L.dBound ["some"] (spBound K pB) := by
  refine fun_okC L.bound.F hc scBound (fun vs H Q E h => ?_) (fun A outer s H vs Q E hr h => ?_)
  · obtain ⟨a, xs, rfl, _⟩ := h
    rfl
  · obtain ⟨a, xs, rfl, hA, hne, hT, q⟩ := h
    refine ⟨_, (pss_one (ps_ret (pe_tup (pa_cons (pe_op op_add pe_int (pe_maxG (fi := fun n => if n < 0 then -n else n) hr (by rfl) T.max TB rfl (genS_by rfl rfl (by rfl) (by rfl) (by decide +kernel)) (pv 0)
      (elt_abs (by rfl) (by rfl) (by rfl) T.abs) (fun _ => rfl))) (pa_cons pe_int pa_nil))))).nox, ?_⟩
    refine ⟨_, rfl, a, xs, rfl, hA, hT, List.length_pos_iff.mpr hne, fun H2 m h2 hm hy => ⟨1, m, rfl, rfl, Nat.le_of_lt (small1000 (n := 2) (by decide)), fun p np => ?_⟩⟩
    obtain ⟨⟨ps, hps, htr⟩, hk⟩ := h2
    have hpp : p ≠ pB := fun z => by
      rw [z, hps] at np
      cases np
    refine q _ p (fun b h1 h2 => by rw [upd_ne h2]; exact hk b h1) ⟨ps, by rw [upd_ne (fun z => hpp z.symm)]; exact hps, htr⟩ ((hk p hpp).symm.trans np) hpp ?_
    rw [upd_same]
    have e := hgt_is hm hy
    show some (HO.tup [V.int (1 + m), V.int 1]) = some (HO.tup [V.int (1 + Yk.hgt xs), V.int 1])
    rw [e]
end
end Yw
end
section
set_option maxRecDepth 100000
set_option maxHeartbeats 4000000
namespace Yk
theorem chl_len : ∀ (n : Nat) (p q : List Int), (chl n p q).length ≤ n + 2
  | 0, p, q => Nat.le_refl 2
  | n + 1, p, q => by
    unfold chl
    split
    · have := chl_len n q (negl (prim (remd p q)))
      rw [List.length_cons]
      omega
    · exact Nat.le_trans (Nat.le_refl 2) (by omega)
theorem chain_len (s : List Int) : (chain s).length ≤ s.length + 2 := Nat.le_trans (List.length_filter_le _ _) (chl_len _ _ _)
end Yk
namespace Yw
open PySem PySem.Spec PyProof.Rows L2 HT
/-! ### the tables may grow; all else stays -/
theorem Tb.same {H H' : Hp} {P : Addr} (h : Tb H P) (s : Same H H') : Tb H' P := by
  obtain ⟨ps, e, t⟩ := h
  exact ⟨ps, s _ _ e, t⟩
structure Ext (TS : List Addr) (H H' : Hp) : Prop where
  keep : ∀ b o, H b = some o → b ∉ TS → H' b = some o
  tb : ∀ P ∈ TS, Tb H P → Tb H' P
def Tbl (TS : List Addr) (H : Hp) : Prop := ∀ P ∈ TS, Tb H P
section
variable {TS : List Addr} {H H' H1 H2 : Hp}
theorem Ext.of (s : Same H H') : Ext TS H H' := ⟨fun b o e _ => s b o e, fun P _ h => h.same s⟩
theorem Ext.trans (a : Ext TS H H1) (b : Ext TS H1 H2) : Ext TS H H2 := ⟨fun c o e n => b.keep c o (a.keep c o e n) n, fun P m h => b.tb P m (a.tb P m h)⟩
theorem Tbl.ext (t : Tbl TS H) (e : Ext TS H H') : Tbl TS H' := fun P m => e.tb P m (t P m)
theorem Ext.obj (e : Ext TS H H') (t : Tbl TS H) {b : Addr} {o : HO} (h : H b = some o) (no : ∀ ps, o ≠ .tbl ps) : H' b = some o := e.keep b o h fun m => by
  obtain ⟨ps, e1, _⟩ := t b m
  rw [h] at e1
  exact no ps (Option.some.inj e1)
theorem Ext.sqT {K : PySem.W.Frag} (e : Ext TS H H') (t : Tbl TS H) {a : Addr} {xs : List V} (h : SqT K H a xs) : SqT K H' a xs := by
  rcases h with (h | ⟨o, h⟩) | h
  · exact .inl (.inl (e.obj t h (fun ps z => by cases z)))
  · exact .inl (.inr ⟨o, e.obj t h (fun ps z => by cases z)⟩)
  · exact .inr h
theorem Ext.plc {K : PySem.W.Frag} (e : Ext TS H H') (t : Tbl TS H) {p : Addr} {x y : Int} {T : Nat} (h : Plc K H p x y T) : Plc K H' p x y T := ⟨e.sqT t h.1, h.2⟩
theorem Ext.chl {K : PySem.W.Frag} (e : Ext TS H H') (t : Tbl TS H) {a : Addr} {c : List (List Int)} (h : ChL K H a c) : ChL K H' a c := by
  obtain ⟨ps, e1, p⟩ := h
  exact ⟨ps, e.obj t e1 (fun ps z => by cases z), Paired.mono (fun _ _ q => e.sqT t q) p⟩
theorem Ext.free (e : Ext TS H H') (t : Tbl TS H) {p : Addr} (h : H' p = none) : H p = none := by
  cases q : H p with
  | none => rfl
  | some o =>
    by_cases m : p ∈ TS
    · obtain ⟨ps, e1, _⟩ := e.tb p m (t p m)
      rw [h] at e1
      cases e1
    · rw [e.keep p o q m] at h
      cases h
/-- one table has grown, a new thing stands at p -/
theorem ext_tb {pB p : Addr} (hk : ∀ b, b ≠ pB → b ≠ p → H' b = H b) (ht : Tb H' pB) (hp : H p = none) (m : pB ∈ TS) : Ext TS H H' := by
  refine ⟨fun b o e n => ?_, fun P mP h => ?_⟩
  · rw [hk b (fun z => n (by rw [z]; exact m)) (ne_of_none e hp)]
    exact e
  · by_cases z : P = pB
    · rw [z]
      exact ht
    · obtain ⟨ps, e, t⟩ := h
      exact ⟨ps, by rw [hk P z (ne_of_none e hp)]; exact e, t⟩
theorem ext_tb1 {pB : Addr} (h : TbOnly pB H H') (m : pB ∈ TS) : Ext TS H H' := by
  refine ⟨fun b o e n => ?_, fun P mP h2 => ?_⟩
  · rw [h.2 b (fun z => n (by rw [z]; exact m))]
    exact e
  · by_cases z : P = pB
    · rw [z]
      exact h.1
    · obtain ⟨ps, e, t⟩ := h2
      exact ⟨ps, by rw [h.2 P z]; exact e, t⟩
end
/-! ### the simple part -/
def Sok (s : List Int) : Prop := Yk.lead s ≠ 0 ∧ s.length ≤ 8 ∧ Yk.Bd 139988 s
theorem Sok.pre {s : List Int} (h : Sok s) : Yk.Bd 139991 s ∧ Yk.Bd 139991 (Yk.deriv s) ∧ (139991 + 1) * 3 ^ s.length < 1206000000 := by
  have h3 : 3 ^ s.length ≤ 3 ^ 8 := Nat.pow_le_pow_right (by decide) h.2.1
  exact ⟨h.2.2.mono (by decide), Yk.bd_deriv h.2.2 h.2.1, by omega⟩
theorem Sok.cok {s : List Int} (h : Sok s) : Cok 102100000 (Yk.chain s) := by
  refine ⟨?_, Yk.bd_chain h.2.2 h.2.1⟩
  have := Yk.chain_len s
  have := h.2.1
  omega
section
variable {P : Program} {w : World} {K : PySem.W.Frag} {mg : Str → Option Value} {base : Heap}
/-! ### count_above -/
theorem scAbove : FnScope ["some", "discount", "found"] ["some", "discount"] (defScope sAbove) := ⟨rfl, rfl, rfl, by decide +kernel, rfl, by decide +kernel, by decide +kernel⟩
theorem plc01 {H : Hp} {p : Addr} (h : H p = some (.tup [.int 0, .int 1])) (T : Nat) (hT : 1 ≤ T) : Plc K H p 0 1 T := ⟨SqT.of h, Nat.pow_pos (by decide), Nat.lt_of_lt_of_le (by decide : (1 : Nat) < 2 ^ 1) (Yk.pow_le hT)⟩
def spAbove (K : PySem.W.Frag) : Sp := fun vs H Q _ => ∃ (a p : Addr) (s : List Int) (t b : Int) (T : Nat), vs = [.ref a, .ref p] ∧ SqT K H a (iv s) ∧ Sok s ∧ Plc K H p t b T ∧ 1 ≤ T ∧ T ≤ 3000000 ∧ ∀ H', Same H H' → Q (.int (Yk.countAbove s t b)) H'
theorem ok_above {k : Nat} (L : Lib K mg) (T : Txt mg) (G : Gd P base) : FnOk P w K mg base CX0 (k + 43) L.fAbove L.dAbove ["some", "discount"] (spAbove K) := by
  refine L.above.F.ok scAbove (fun vs H Q E h => ?_) (fun cdv A outer s0 H vs Q E hr h => ?_)
  · obtain ⟨a, p, s, t, b, T, rfl, _⟩ := h
    rfl
  · obtain ⟨a, p, s, t, b, B, rfl, hA, hs, hp, h1, hB, q⟩ := h
    have OC := ok_chain (P := P) (w := w) (base := base) (k := k) L T G
    have OR := ok_roots (P := P) (w := w) (base := base) (k := k + 39) L T
    have OV := ok_val (P := P) (w := w) (base := base) (k := k + 41) L T
    refine ⟨_, pss_cons (ps_set (i := 2) scAbove.nd rfl (.inl rfl) (pe_call OR hr (by rfl) L.roots.m L.roots.F.kp L.roots.b .nil pass0 (pa_cons (pe_call OC hr (by rfl) L.chain.m L.chain.F.kp L.chain.b .nil pass0 (pa_cons (pv 0) pa_nil)) (pa_cons (pe_tup (pa_cons pe_int (pa_cons pe_int pa_nil))) (pa_cons (pv 1) pa_nil)))))
      (pss_one (ps_ret (pe_op op_sub (pv 2) (pe_ifExp (pt_cmpR op_eq (pe_call OV hr (by rfl) L.val.m L.val.F.kp L.val.b .nil pass0 (pa_cons (pv 0) (pa_cons (pv 1) pa_nil))) pe_int (nomark _)) pe_int pe_int)))), ?_⟩
    obtain ⟨c1, c2, c3⟩ := hs.pre
    have m1 : (s.length + 1) * (B + 1) ≤ 9 * (B + 1) := Nat.mul_le_mul_right _ (by have := hs.2.1; omega)
    refine ⟨_, rfl, a, s, 139991, rfl, hA, hs.1, by have := hs.2.1; omega, c1, c2, by decide, c3, fun H1 r s1 nr hc => ⟨Nat.le_of_lt (small1000 (n := 2) (by decide)), fun o no => ⟨_, rfl, ?_⟩⟩⟩
    have s2 : Same H1 (upd H1 o (.tup [.int 0, .int 1])) := sameU no
    refine ⟨r, o, p, Yk.chain s, 0, 1, t, b, 102100000, B, rfl, hc.same s2, plc01 upd_same B h1, hp.same (s1.trans s2), hs.cok, by omega, fun H2 s3 => ?_⟩
    have s02 : Same H H2 := (s1.trans s2).trans s3
    refine ⟨_, rfl, _, rfl, _, rfl, a, p, s, t, b, 139988, B, rfl, sameT s02 hA, hp.same s02, hs.2.2, by have := hs.2.1; omega, by omega, fun H3 s4 => ⟨rfl, _, rfl, ?_⟩⟩
    have q3 := q H3 (s02.trans s4)
    unfold Yk.countAbove at q3
    refine ite2 (fun z => ?_) (fun z => ?_)
    · have z : Yk.val s t b = 0 := V.int.inj (of_decide_eq_true z)
      rw [if_pos z] at q3
      exact ⟨_, _, rfl, rfl, q3⟩
    · have z : ¬ Yk.val s t b = 0 := fun e => z (decide_eq_true (by rw [e]))
      rw [if_neg z] at q3
      exact ⟨_, _, rfl, rfl, q3⟩
/-! ### count_all -/
theorem scAll : FnScope ["some"] ["some"] (defScope sAll) := ⟨rfl, rfl, rfl, by decide +kernel, rfl, by decide +kernel, by decide +kernel⟩
def spAll (K : PySem.W.Frag) (TS : List Addr) : Sp := fun vs H Q _ => ∃ (a : Addr) (s : List Int), vs = [.ref a] ∧ SqT K H a (iv s) ∧ Sok s ∧ Tbl TS H ∧ ∀ H', Ext TS H H' → Q (.int (Yk.countAll s)) H'
theorem bnd_bitsN {N : Nat} {s : List Int} (h : Yk.Bd N s) : (Yk.bnd s).natAbs < 2 ^ (N + 1) := by
  have h0 := Yk.hgt_nn s
  have hp : 0 < 2 ^ N := Nat.pow_pos (by decide)
  have : ∀ l : List Int, Yk.Bd N l → Yk.hgt l < ((2 ^ N : Nat) : Int) := by
    intro l
    induction l with
    | nil =>
      intro _
      show (0 : Int) < _
      omega
    | cons a l ih =>
      intro hb
      have h1 := ih fun x hx => hb x (List.mem_cons_of_mem _ hx)
      have h2 := hb a List.mem_cons_self
      have e : Yk.hgt (a :: l) = (max a.natAbs ((l.map Int.natAbs).foldr max 0) : Nat) := rfl
      unfold Yk.hgt at h1
      rw [e]
      generalize 2 ^ N = M at h1 h2 ⊢
      omega
  have h1 := this s h
  have e : 2 ^ (N + 1) = 2 ^ N * 2 := Nat.pow_succ ..
  unfold Yk.bnd
  rw [e]
  generalize 2 ^ N = M at h1 hp ⊢
  omega
theorem sum_bits {N : Nat} {u l : Int} (hu : u.natAbs < 2 ^ 27) (hN : 27 ≤ N) (hl : l.natAbs < 2 ^ N) : (u + l).natAbs < 2 ^ (N + 1) := Yk.add_lt (Nat.lt_of_lt_of_le hu (Yk.pow_le hN)) hl
theorem ok_all {k : Nat} {cB pB : Addr} {TS : List Addr} (L : Lib K mg) (T : Txt mg) (G : Gd P base) (hc : L.dBound.code = .ref cB) (TB : LamX.TabB base mg cB pB) (hm : pB ∈ TS) : FnOk P w K mg base CX0 (k + 43) L.fAll L.dAll ["some"] (spAll K TS) := by
  refine L.all.F.ok scAll (fun vs H Q E h => ?_) (fun cdv A outer s0 H vs Q E hr h => ?_)
  · obtain ⟨a, s, rfl, _⟩ := h
    rfl
  · obtain ⟨a, s, rfl, hA, hs, hT, q⟩ := h
    have OC := ok_chain (P := P) (w := w) (base := base) (k := k) L T G
    have OR := ok_roots (P := P) (w := w) (base := base) (k := k + 39) L T
    have OB := ok_bound (P := P) (w := w) (base := base) (k := k + 41) L T hc TB
    refine ⟨_, pss_one (ps_ret (pe_call OR hr (by rfl) L.roots.m L.roots.F.kp L.roots.b .nil pass0 (pa_cons (pe_call OC hr (by rfl) L.chain.m L.chain.F.kp L.chain.b .nil pass0 (pa_cons (pv 0) pa_nil)) (pa_cons (pe_tup (pa_cons pe_int (pa_cons pe_int pa_nil))) (pa_cons (pe_call OB hr (by rfl) L.bound.m L.bound.F.kp L.bound.b .nil pass0 (pa_cons (pv 0) pa_nil)) pa_nil))))), ?_⟩
    obtain ⟨c1, c2, c3⟩ := hs.pre
    refine ⟨_, rfl, a, s, 139991, rfl, hA, hs.1, by have := hs.2.1; omega, c1, c2, by decide, c3, fun H1 r s1 nr hc => ⟨Nat.le_of_lt (small1000 (n := 2) (by decide)), fun o no => ⟨_, rfl, ?_⟩⟩⟩
    have s2 : Same H1 (upd H1 o (.tup [.int 0, .int 1])) := sameU no
    have e02 : Ext TS H (upd H1 o (.tup [.int 0, .int 1])) := Ext.of (s1.trans s2)
    have t2 := hT.ext e02
    refine ⟨a, s, rfl, e02.sqT hT hA, Yk.lead_ne_nil hs.1, t2 pB hm, fun H2 p hk htb np hpb ep => ?_⟩
    have e23 : Ext TS (upd H1 o (.tup [.int 0, .int 1])) H2 := ext_tb hk htb np hm
    have ho := e23.obj t2 upd_same (fun ps z => by cases z)
    refine ⟨r, o, p, Yk.chain s, 0, 1, Yk.bnd s, 1, 102100000, 139989, rfl, e23.chl t2 (hc.same s2), plc01 ho _ (by decide), ⟨SqT.of ep, bnd_bitsN hs.2.2, Nat.lt_of_lt_of_le (by decide : (1 : Nat) < 2 ^ 1) (Yk.pow_le (by decide))⟩, hs.cok, by decide, fun H3 s3 => ?_⟩
    exact q H3 ((e02.trans e23).trans (Ext.of s3))
/-! ### is_at_least -/
theorem scAtL : FnScope ["some", "low", "unit", "discount"] ["some", "low", "unit"] (defScope sAtL) := ⟨rfl, rfl, rfl, by decide +kernel, rfl, by decide +kernel, by decide +kernel⟩
def spAtL (K : PySem.W.Frag) : Sp := fun vs H Q _ => ∃ (a : Addr) (s : List Int) (low unit : Int), vs = [.ref a, .int low, .int unit] ∧ SqT K H a (iv s) ∧ Sok s ∧ 0 < unit ∧ unit ≤ 100000000 ∧ low.natAbs < 2 ^ 2000000 ∧ ∀ H', Same H H' → Q (.bl (Yk.atL s low unit)) H'
theorem ediv_le {a g : Int} (ha : 0 ≤ a) : (a / g).natAbs ≤ a.natAbs := Int.natAbs_ediv_le_natAbs a g
theorem ok_atl {k : Nat} (L : Lib K mg) (T : Txt mg) (G : Gd P base) : FnOk P w K mg base CX0 (k + 44) L.fAtL L.dAtL ["some", "low", "unit"] (spAtL K) := by
  refine L.atl.F.ok scAtL (fun vs H Q E h => ?_) (fun cdv A outer s0 H vs Q E hr h => ?_)
  · obtain ⟨a, s, low, unit, rfl, _⟩ := h
    rfl
  · obtain ⟨a, s, low, unit, rfl, hA, hs, hu, hu8, hlow, q⟩ := h
    have OA := ok_above (P := P) (w := w) (base := base) (k := k) L T G
    have OV := ok_val (P := P) (w := w) (base := base) (k := k + 42) L T
    have OT := ok_ratio (P := P) (w := w) (base := base) (k := k + 42) L.ratio.F T
    refine ⟨_, pss_cons (ps_if (pt_cmpR op_le (pv 1) (pe_op op_sub pe_int (pv 2)) (nomark _)) (pss_one (ps_ret pe_bl)) pss_nil)
      (pss_cons (ps_set (i := 3) scAtL.nd rfl (.inl rfl) (pe_call OT hr (by rfl) L.ratio.m L.ratio.F.kp L.ratio.b .nil pass0 (pa_cons (pv 2) (pa_cons (pe_op op_add (pv 2) (pv 1)) pa_nil))))
      (pss_one (ps_ret (pe_or (pe_cmpR op_eq (pe_call OV hr (by rfl) L.val.m L.val.F.kp L.val.b .nil pass0 (pa_cons (pv 0) (pa_cons (pv 3) pa_nil))) pe_int (nomark _))
        (pe_one (pe_cmpR op_eq (pe_call OA hr (by rfl) L.above.m L.above.F.kp L.above.b .nil pass0 (pa_cons (pv 0) (pa_cons (pv 3) pa_nil))) pe_int (nomark _))))))), ?_⟩
    unfold Yk.atL at q
    refine ⟨_, rfl, _, rfl, _, _, rfl, rfl, _, _, rfl, rfl, _, rfl, ite2 (fun z => ?_) (fun z => ?_)⟩
    · rw [show decide (low ≤ 0 - unit) = true from z, Bool.true_or] at q
      exact q H (Same.refl _)
    · have z' : ¬ low ≤ 0 - unit := fun e => z (decide_eq_true e)
      rw [decide_eq_false z', Bool.false_or] at q
      refine ⟨_, rfl, _, rfl, _, rfl, _, _, rfl, rfl, unit, unit + low, rfl, hu, by omega, by omega, fun H1 p s1 ep => ?_⟩
      have hb : (unit + low).natAbs < 2 ^ (2000000 + 1) := sum_bits (by omega) (by decide) hlow
      have hp : Plc K H1 p (Yk.rtop unit (unit + low)) (Yk.rbot unit (unit + low)) 2000001 := by
        refine ⟨SqT.of ep, ?_, ?_⟩
        · refine Nat.lt_of_le_of_lt (Int.natAbs_ediv_le_natAbs _ _) ?_
          exact Nat.lt_of_lt_of_le (by omega : unit.natAbs < 2 ^ 27) (Yk.pow_le (by decide))
        · exact Nat.lt_of_le_of_lt (Int.natAbs_ediv_le_natAbs _ _) hb
      have hl8 := hs.2.1
      have m1 : (s.length + 1) * (2000001 + 1) ≤ 9 * (2000001 + 1) := Nat.mul_le_mul_right _ (by omega)
      generalize Yk.rtop unit (unit + low) = rt at *
      generalize Yk.rbot unit (unit + low) = rb at *
      refine ⟨_, rfl, _, rfl, a, p, s, rt, rb, 139988, 2000001, rfl, sameT s1 hA, hp, hs.2.2, by omega, by omega, fun H2 s2 => ⟨rfl, _, rfl, ?_⟩⟩
      refine ite2 (fun y => ?_) (fun y => ?_)
      · have y : Yk.val s rt rb = 0 := V.int.inj (of_decide_eq_true y)
        rw [decide_eq_true y, Bool.true_or] at q
        exact q H2 (s1.trans s2)
      · have y : ¬ Yk.val s rt rb = 0 := fun e => y (decide_eq_true (by rw [e]))
        rw [decide_eq_false y, Bool.false_or] at q
        refine ⟨_, rfl, _, rfl, a, p, s, rt, rb, 2000001, rfl, sameT (s1.trans s2) hA, hs, hp.same s2, by decide, by decide, fun H3 s3 => ⟨rfl, ?_⟩⟩
        have q3 := q H3 ((s1.trans s2).trans s3)
        have e : decide (V.int (Yk.countAbove s rt rb) = V.int 1) = decide (Yk.countAbove s rt rb = 1) := by
          by_cases c : Yk.countAbove s rt rb = 1
          · rw [c]
            rfl
          · rw [decide_eq_false c, decide_eq_false (fun e => c (V.int.inj e))]
        rw [e]
        exact q3
end
end Yw
end
section
set_option maxRecDepth 100000
set_option maxHeartbeats 4000000
namespace Yk
theorem simp1_trm (f : List Int) : Trm (simp1 f) := by
  unfold simp1
  split
  · exact prim_trm _
  · exact prim_trm _
def Yld (f : List Int) : Prop := (∃ x ∈ f, x ≠ 0) ∧ countAll (simp1 f) = 1
end Yk
namespace Yw
open PySem PySem.Spec PyProof.Rows L2 HT
/-! ### any of a tuple of ints; an exception class called without arguments -/
theorem any_ints : ∀ ns : List Int, (List.range ns.length).any (fun i => ns.getD i 0 != 0) = ns.any (fun n => n != 0)
  | [] => rfl
  | b :: bs => by
    rw [List.length_cons, List.range_succ_eq_map, List.any_cons, List.any_map, List.any_cons, ← any_ints bs]
    rfl
section
variable {X : Cx}
def rAnyT (K : PySem.W.Frag) : List V → Hp → VK → Prop := fun vs H Q => ∃ (a : Addr) (ns : List Int), vs = [V.ref a] ∧ SqT K H a (iv ns) ∧ Q (.bl (ns.any fun n => n != 0)) H
theorem cr_anyT (hc : X.calm = true) : CallR X (.builtin "any") (rAnyT X.K) := by
  intro pins s σ H vs us Q I r h
  obtain ⟨a, ns, rfl, hs, q⟩ := h
  obtain ⟨its, rv, ht, _⟩ := I.tuple hs
  obtain ⟨u, rfl, ru⟩ := vals1 r
  cases ru
  have hlen : its.toArray.size = ns.length := by
    have := rv.length
    rw [List.length_map] at this
    rw [List.size_toArray]
    omega
  have hlt : a < s.heap.objs.size := by
    obtain ⟨_, e, _⟩ := ht
    exact Heap.lt_size e
  have hne : a ≠ s.heap.objs.size := Nat.ne_of_lt hlt
  have ht' : s.heap.IsTuple a its.toArray := ht
  refine call_any_walk (wpAny_pyIter_tuple ht' ⟨_, _, _, _, _, _, (fun i => ns.getD i 0 != 0), rfl, Walks.tuple (A := X.A.in1) (I.ok.hd hc) _ a hne its.toArray, ⟨⟨_, Heap.get?_push_size _ rfl, rfl, rfl⟩, ht'.push _⟩, ?_, fun h' tk hk => ?_⟩)
  · intro i v s' Q' E' hv hq
    have hv' : its[i]? = some v := by simpa using hv
    obtain ⟨n, t, hn, rfl⟩ := vals_at rv hv'
    have e : ns.getD i 0 = n := by
      rw [List.getD_eq_getElem?_getD, hn]
      rfl
    have hq2 : Q' (ns.getD i 0 != 0) s' := hq
    rw [e] at hq2
    exact truthy_int hq2
  · refine ⟨.bl _, H, I.kept fun b o eo => hk b o (fun hmem => ?_) (Heap.get?_push_of_some _ eo), ?_, q⟩
    · rcases List.mem_cons.mp hmem with e1 | hmem
      · exact absurd (e1 ▸ Heap.lt_size eo) (Nat.lt_irrefl _)
      · cases hmem
    · show Value.bool _ = Value.bool _
      rw [hlen, any_ints]
theorem pmk_own0 {C : Addr} {bmB : List Value} {B newId initId : String} {x : Str} {p pos : Pos} (F : ExcBaseFacts B newId initId bmB) (q : PySem.W.excIn X.K C bmB newId = true) (gC : X.mg x = some (.ref C))
    (kC : PySem.W.keepIn X.K (.ref C) = true) (r : Raises X (.ref C)) (hg : Gl X x) (hdb : (x == ("__debug__" : Str)) = false := by decide) : PMk X (.Call (.Name x p) [] [] pos) (fun _ H Q => Q (.ref C) none H) := by
  intro pins s σ H Q I h
  refine wpAny_Call_Name_kw (ld_glob I hg gC ?_ hdb)
  refine PySem.W.callWith_K0 I.kIn kC ?_
  show wpAny _ _ (call (.ref C) []) _ _ _
  obtain ⟨bm, N, nm, qn, bs, hdct, sn, sub, ab, col, dd, k0, k1, k2, k3, k5, mN, hC, hN, hni, T⟩ := exc_obj I.kIn q
  refine wpAny_call_exc_subT F T hC hN hni (fun h' e hm => ?_) (Nat.zero_le _)
  exact mk_of I hm r h (I.hok.gone hm.new)
end
/-- the classes of errors -/
structure Exs (K : PySem.W.Frag) (mg : Str → Option Value) (cN cL : Addr) : Prop where
  gN : mg "NoYield" = some (.ref cN)
  xN : PySem.W.excIn K cN [.type "ValueError", .type "Exception", .type "BaseException", .type "object"] "ValueError.__new__" = true
  kN : PySem.W.keepIn K (.ref cN) = true
  bN : PySem.W.subIn K (.ref cN) (.type "BaseException") = some true
  tN : PySem.W.typeIn K (.ref cN) = some (.type "type")
  gL : mg "LifeError" = some (.ref cL)
  catches : PySem.W.exmOne K (.ref cN) (.ref cL) = some true
  isN : ExcC K cN
  one : PySem.W.kitOne K (.ref cN) (.ref cN) = some true
/-- what the payments are -/
structure Pay (f : List Int) : Prop where
  len : f.length ≤ 8
  bd : Yk.Bd 20 f
theorem Pay.sok {f : List Int} (h : Pay f) (hz : ∃ x ∈ f, x ≠ 0) : Sok (Yk.simp1 f) := by
  obtain ⟨h1, h2, h3⟩ := Yk.bd_simp1 h.bd h.len hz
  exact ⟨(Yk.simp1_trm f).resolve_left h3, h2, h1⟩
section
variable {P : Program} {w : World} {K : PySem.W.Frag} {mg : Str → Option Value} {base : Heap}
/-! ### polynomial_of -/
theorem scPoly : FnScope ["payments"] ["payments"] (defScope sPoly) := ⟨rfl, rfl, rfl, by decide +kernel, rfl, by decide +kernel, by decide +kernel⟩
def spPoly (K : PySem.W.Frag) (cN : Addr) : Sp := fun vs H Q E => ∃ (a : Addr) (f : List Int), vs = [.ref a] ∧ SqT K H a (iv f) ∧ Pay f ∧ ((∃ x ∈ f, x ≠ 0) → ∀ H' p, Same H H' → H p = none → H' p = some (.tup (iv (Yk.simp1 f))) → Q (.ref p) H') ∧ (¬ (∃ x ∈ f, x ≠ 0) → E (.ref cN) none H)
theorem ok_poly {k : Nat} {cN cL : Addr} (L : Lib K mg) (T : Txt mg) (G : Gd P base) (EX : Exs K mg cN cL) : FnOk P w K mg base (L2.CX P w) (k + 44) L.fPoly L.dPoly ["payments"] (spPoly K cN) := by
  refine L.poly.F.okX scPoly (fun vs H Q E h => ?_) (fun cdv A outer s0 H vs Q E hr h => ?_)
  · obtain ⟨a, f, rfl, _⟩ := h
    rfl
  · obtain ⟨a, f, rfl, hA, hf, q1, q2⟩ := h
    have OS := ok_simple (P := P) (w := w) (base := base) (k := k) L T G
    refine ⟨_, pss_cons (ps_if (pt_not (pt_val (pe_callB (cr_anyT rfl) (by rfl) T.any boot_any (pa_cons (pv 0) pa_nil)))) (pss_one (ps_raise rfl (takes_of rfl rfl rfl rfl) (pmk_own0 PySem.F.excBase_ValueError EX.xN EX.gN EX.kN (raises_own EX.bN EX.tN) rfl))) pss_nil)
      (pss_one (ps_ret (pe_call OS hr (by rfl) L.simple.m L.simple.F.kp L.simple.b .nil pass0 (pa_cons (pv 0) pa_nil)))), ?_⟩
    refine ⟨_, rfl, a, f, rfl, hA, _, rfl, ite2 (fun z => ?_) (fun z => ?_)⟩
    · refine q2 fun hx => ?_
      obtain ⟨x, h1, h2⟩ := hx
      have e : (f.any fun n => n != 0) = true := List.any_eq_true.mpr ⟨x, h1, by simpa using h2⟩
      rw [e] at z
      cases z
    · have hx : ∃ x ∈ f, x ≠ 0 := by
        cases e : (f.any fun n => n != 0) with
        | false =>
          rw [e] at z
          exact absurd rfl z
        | true =>
          obtain ⟨x, h1, h2⟩ := List.any_eq_true.mp e
          exact ⟨x, h1, by simpa using h2⟩
      exact ⟨_, rfl, a, f, rfl, .inr hA, hf.len, hf.bd, hx, q1 hx⟩
/-! ### only_yield -/
theorem scOnly : FnScope ["payments", "some"] ["payments"] (defScope sOnly) := ⟨rfl, rfl, rfl, by decide +kernel, rfl, by decide +kernel, by decide +kernel⟩
def spOnly (K : PySem.W.Frag) (TS : List Addr) (cN : Addr) : Sp := fun vs H Q E => ∃ (a : Addr) (f : List Int), vs = [.ref a] ∧ SqT K H a (iv f) ∧ Pay f ∧ Tbl TS H ∧ (Yk.Yld f → ∀ H' p, Ext TS H H' → H p = none → H' p = some (.tup (iv (Yk.simp1 f))) → Q (.ref p) H') ∧ (¬ Yk.Yld f → ∀ H', Ext TS H H' → E (.ref cN) none H')
theorem ok_only {k : Nat} {cN cL cB pB : Addr} {TS : List Addr} (L : Lib K mg) (T : Txt mg) (G : Gd P base) (EX : Exs K mg cN cL) (hc : L.dBound.code = .ref cB) (TB : LamX.TabB base mg cB pB) (hm : pB ∈ TS) : FnOk P w K mg base (L2.CX P w) (k + 45) L.fOnly L.dOnly ["payments"] (spOnly K TS cN) := by
  refine L.only.F.okX scOnly (fun vs H Q E h => ?_) (fun cdv A outer s0 H vs Q E hr h => ?_)
  · obtain ⟨a, f, rfl, _⟩ := h
    rfl
  · obtain ⟨a, f, rfl, hA, hf, hT, q1, q2⟩ := h
    have OP := ok_poly (P := P) (w := w) (base := base) (k := k) L T G EX
    have OA := ok_all (P := P) (w := w) (base := base) (k := k + 1) L T G hc TB hm
    have tk : Takes (cxOf (L2.CX P w) P w K mg base ["payments", "some"] "only_yield" (defScope sOnly) L.fOnly cdv A outer s0 H E) (fun cls d _ H => E cls d H) := takes_of rfl rfl rfl rfl
    refine ⟨_, pss_cons (ps_set (i := 1) scOnly.nd rfl (.inl rfl) (pe_callS OP hr (by rfl) L.poly.m L.poly.F.kp L.poly.b (fun σ => passAt tk σ) (pa_cons (pv 0) pa_nil)))
      (pss_cons (ps_if (pt_cmpR op_ne (pe_call OA hr (by rfl) L.all.m L.all.F.kp L.all.b .nil pass0 (pa_cons (pv 1) pa_nil)) pe_int (nomark _)) (pss_one (ps_raise rfl tk (pmk_own0 PySem.F.excBase_ValueError EX.xN EX.gN EX.kN (raises_own EX.bN EX.tN) rfl))) pss_nil)
      (pss_one (ps_ret (pv 1)))), ?_⟩
    refine ⟨_, rfl, a, f, rfl, hA, hf, fun hz H1 p s1 np ep => ?_, fun hz => q2 (fun y => hz y.1) H (Ext.of (Same.refl H))⟩
    have e1 : Ext TS H H1 := Ext.of s1
    refine ⟨_, rfl, p, _, rfl, SqT.of ep, hf.sok hz, hT.ext e1, fun H2 e2 => ⟨rfl, _, rfl, ite2 (fun z => ?_) (fun z => ?_)⟩⟩
    · refine q2 (fun y => ?_) H2 (e1.trans e2)
      have z2 : (!decide (V.int (Yk.countAll (Yk.simp1 f)) = V.int 1)) = true := z
      rw [y.2] at z2
      exact absurd z2 (by decide)
    · have hy : Yk.countAll (Yk.simp1 f) = 1 := Classical.byContradiction fun n => z (by
        show (!decide (V.int (Yk.countAll (Yk.simp1 f)) = V.int 1)) = true
        rw [decide_eq_false (fun e => n (V.int.inj e))]
        rfl)
      exact ⟨_, rfl, q1 ⟨hz, hy⟩ H2 p (e1.trans e2) np (e2.obj (hT.ext e1) ep (fun ps z => by cases z))⟩
/-! ### yield_count -/
theorem scCount : FnScope ["payments"] ["payments"] (defScope sCount) := ⟨rfl, rfl, rfl, by decide +kernel, rfl, by decide +kernel, by decide +kernel⟩
def spCount (TS : List Addr) (cN : Addr) : Sp := fun vs H Q E => ∃ (a : Addr) (f : List Int), vs = [.ref a] ∧ H a = some (.tup (iv f)) ∧ Pay f ∧ (∀ x ∈ f, -1000000 ≤ x ∧ x ≤ 1000000) ∧ Tbl TS H ∧ ((∃ x ∈ f, x ≠ 0) → ∀ H', Ext TS H H' → Q (.int (Yk.countAll (Yk.simp1 f))) H') ∧ (¬ (∃ x ∈ f, x ≠ 0) → ∀ H', Ext TS H H' → E (.ref cN) none H')
theorem ok_count {k : Nat} {cN cL cB pB cP pP : Addr} {TS : List Addr} (L : Lib K mg) (T : Txt mg) (G : Gd P base) (EX : Exs K mg cN cL) (hc : L.dBound.code = .ref cB) (TB : LamX.TabB base mg cB pB) (hm : pB ∈ TS) (hcP : L.dNeedP.code = .ref cP) (TP : LamX.TabB base mg cP pP) (hmP : pP ∈ TS) :
    FnOk P w K mg base (L2.CX P w) (k + 45) L.fCount L.dCount ["payments"] (spCount TS cN) := by
  refine L.count.F.okX scCount (fun vs H Q E h => ?_) (fun cdv A outer s0 H vs Q E hr h => ?_)
  · obtain ⟨a, f, rfl, _⟩ := h
    rfl
  · obtain ⟨a, f, rfl, hA, hf, hx, hT, q1, q2⟩ := h
    have ON := ok_needP (P := P) (w := w) (base := base) (k := k + 43) L T hcP TP
    have OP := ok_poly (P := P) (w := w) (base := base) (k := k) L T G EX
    have OA := ok_all (P := P) (w := w) (base := base) (k := k + 1) L T G hc TB hm
    have tk : Takes (cxOf (L2.CX P w) P w K mg base ["payments"] "yield_count" (defScope sCount) L.fCount cdv A outer s0 H E) (fun cls d _ H => E cls d H) := takes_of rfl rfl rfl rfl
    refine ⟨_, pss_cons (ps_expr (pe_call ON hr (by rfl) L.needP.m L.needP.F.kp L.needP.b .nil pass0 (pa_cons (pv 0) pa_nil)))
      (pss_one (ps_ret (pe_call OA hr (by rfl) L.all.m L.all.F.kp L.all.b .nil pass0 (pa_cons (pe_callS OP hr (by rfl) L.poly.m L.poly.F.kp L.poly.b (fun σ => passAt tk σ) (pa_cons (pv 0) pa_nil)) pa_nil)))), ?_⟩
    refine ⟨_, rfl, a, f, rfl, hA, by have := hf.len; omega, hx, hT pP hmP, fun H1 h1 => ?_⟩
    have e1 : Ext TS H H1 := ext_tb1 h1 hmP
    have hA1 := e1.obj hT hA (fun ps z => by cases z)
    refine ⟨_, rfl, a, f, rfl, SqT.of hA1, hf, fun hz H2 p s2 np ep => ?_, fun hz => q2 hz H1 e1⟩
    have e2 : Ext TS H H2 := e1.trans (Ext.of s2)
    exact ⟨p, _, rfl, SqT.of ep, hf.sok hz, hT.ext e2, fun H3 e3 => q1 hz H3 (e2.trans e3)⟩
end
end Yw
end
section
set_option maxRecDepth 100000
set_option maxHeartbeats 4000000
namespace Yw
open PySem PySem.Spec PyProof.Rows L2 HT
theorem far_bits {N : Nat} {s : List Int} {u h : Int} (hs : Yk.Bd N s) (hu0 : 0 < u) (hu : u ≤ 100000000) (h0 : 0 - u ≤ h) (hh : h ≤ 2 * (u * (2 * Yk.hgt s + 1))) : h.natAbs < 2 ^ (N + 31) := by
  have h1 := bnd_bitsN hs
  unfold Yk.bnd at h1
  have h2 := Yk.hgt_nn s
  have h3 : (2 * Yk.hgt s + 1).natAbs < 2 ^ (N + 2) := by
    have e : 2 ^ (N + 2) = 2 ^ (N + 1) * 2 := Nat.pow_succ ..
    rw [e]
    generalize 2 ^ (N + 1) = M at h1 ⊢
    omega
  have h4 : (u * (2 * Yk.hgt s + 1)).natAbs < 2 ^ (27 + (N + 2)) := Yk.mul_lt (by omega) h3
  have h5 : u.natAbs < 2 ^ (27 + (N + 2)) := Nat.lt_of_lt_of_le (by omega : u.natAbs < 2 ^ 27) (Yk.pow_le (by omega))
  have e : 2 ^ (N + 31) = 2 ^ (27 + (N + 2)) * 4 := by
    rw [show N + 31 = 27 + (N + 2) + 2 by omega, Nat.pow_add]
  rw [e]
  generalize 2 ^ (27 + (N + 2)) = M at h4 h5 ⊢
  generalize u * (2 * Yk.hgt s + 1) = B at h4 hh
  omega
theorem bits_up {N : Nat} {h : Int} (h1 : h.natAbs < 2 ^ (N + 31)) (hN : N + 31 ≤ 2000000) : h.natAbs < 2 ^ 2000000 := Nat.lt_of_lt_of_le h1 (Yk.pow_le hN)
section
variable {P : Program} {w : World} {K : PySem.W.Frag} {mg : Str → Option Value} {base : Heap}
/-! ### yield_floor -/
theorem scFloor : FnScope ["payments", "places", "some", "unit", "turn", "low", "high", "middle"] ["payments", "places"] (defScope sFloor) := ⟨rfl, rfl, rfl, by decide +kernel, rfl, by decide +kernel, by decide +kernel⟩
def spFloor (TS : List Addr) (cN : Addr) : Sp := fun vs H Q E => ∃ (a : Addr) (f : List Int) (n : Nat), vs = [.ref a, .int (n : Nat)] ∧ H a = some (.tup (iv f)) ∧ Pay f ∧ (∀ x ∈ f, -1000000 ≤ x ∧ x ≤ 1000000) ∧ n ≤ 8 ∧ Tbl TS H ∧
  (Yk.Yld f → ∀ H' (r : Int), Ext TS H H' → 0 - ((10 ^ n : Nat) : Int) ≤ r → Yk.atL (Yk.simp1 f) r ((10 ^ n : Nat) : Int) = true → Yk.atL (Yk.simp1 f) (r + 1) ((10 ^ n : Nat) : Int) = false → Q (.int r) H') ∧ (¬ Yk.Yld f → ∀ H', Ext TS H H' → E (.ref cN) none H')
theorem ok_floor {k : Nat} {cN cL cB pB cP pP : Addr} {TS : List Addr} (L : Lib K mg) (T : Txt mg) (G : Gd P base) (EX : Exs K mg cN cL) (hc : L.dBound.code = .ref cB) (TB : LamX.TabB base mg cB pB) (hm : pB ∈ TS) (hcP : L.dNeedP.code = .ref cP) (TP : LamX.TabB base mg cP pP) (hmP : pP ∈ TS) :
    FnOk P w K mg base (L2.CX P w) (k + 46) L.fFloor L.dFloor ["payments", "places"] (spFloor TS cN) := by
  refine L.floor.F.okX scFloor (fun vs H Q E h => ?_) (fun cdv A outer s0 H vs Q E hr h => ?_)
  · obtain ⟨a, f, n, rfl, _⟩ := h
    rfl
  · obtain ⟨a, f, n, rfl, hA, hf, hx, hn, hT, q1, q2⟩ := h
    have ON := ok_needP (P := P) (w := w) (base := base) (k := k + 44) L T hcP TP
    have OT := ok_needT (P := P) (w := w) (base := base) (k := k + 43) L.needT.F L.isin.F L.isin.b L.isin.m T
    have OO := ok_only (P := P) (w := w) (base := base) (k := k) L T G EX hc TB hm
    have OL := ok_atl (P := P) (w := w) (base := base) (k := k + 1) L T G
    obtain ⟨tl, hml⟩ := T.mostL
    have tk : Takes (cxOf (L2.CX P w) P w K mg base ["payments", "places", "some", "unit", "turn", "low", "high", "middle"] "yield_floor" (defScope sFloor) L.fFloor cdv A outer s0 H E) (fun cls d _ H => E cls d H) := takes_of rfl rfl rfl rfl
    refine ⟨_, pss_cons (ps_expr (pe_call ON hr (by rfl) L.needP.m L.needP.F.kp L.needP.b .nil pass0 (pa_cons (pv 0) pa_nil)))
      (pss_cons (ps_expr (pe_call OT hr (by rfl) L.needT.m L.needT.F.kp L.needT.b .nil pass0 (pa_cons (pv 1) (pa_cons pe_int (pa_cons (pe_glob (by rfl) hml (v := .int 8) ⟨_, rfl⟩) pa_nil)))))
      (pss_cons (ps_par (i := 2) (j := 3) rfl scFloor.nd rfl rfl (by decide) rfl rfl (pa_cons (pe_callS OO hr (by rfl) L.only.m L.only.F.kp L.only.b (fun σ => passAt tk σ) (pa_cons (pv 0) pa_nil)) (pa_cons pe_int pa_nil)) rfl)
      (pss_cons (ps_for (passes_of rfl) rfl (pi_range1 (by rfl) T.range (pa_cons (pv 1) pa_nil)) (pg_name (i := 4) scFloor.nd rfl (.inl rfl)) (pss_one (ps_set (i := 3) scFloor.nd rfl (.inl rfl) (pe_op op_mulG pe_int (pv 3)))))
      (pss_cons (ps_par (i := 5) (j := 6) rfl scFloor.nd rfl rfl (by decide) rfl rfl (pa_cons (pe_op op_sub pe_int (pv 3)) (pa_cons (pv 3) pa_nil)) rfl)
      (pss_cons (ps_while (passes_of rfl) (pt_val (pe_call OL hr (by rfl) L.atl.m L.atl.F.kp L.atl.b .nil pass0 (pa_cons (pv 2) (pa_cons (pv 6) (pa_cons (pv 3) pa_nil))))) (pss_one (ps_set (i := 6) scFloor.nd rfl (.inl rfl) (pe_op op_mulG pe_int (pv 6)))))
      (pss_cons (ps_while (passes_of rfl) (pt_cmpR op_gt (pe_op op_sub (pv 6) (pv 5)) pe_int (nomark _))
        (pss_cons (ps_set (i := 7) scFloor.nd rfl (.inl rfl) (pe_op op_fdiv (pe_op op_add (pv 5) (pv 6)) pe_int))
        (pss_one (ps_if (pt_val (pe_call OL hr (by rfl) L.atl.m L.atl.F.kp L.atl.b .nil pass0 (pa_cons (pv 2) (pa_cons (pv 7) (pa_cons (pv 3) pa_nil))))) (pss_one (ps_set (i := 5) scFloor.nd rfl (.inl rfl) (pv 7))) (pss_one (ps_set (i := 6) scFloor.nd rfl (.inl rfl) (pv 7)))))))
      (pss_one (ps_ret (pv 5))))))))), ?_⟩
    refine ⟨_, rfl, a, f, rfl, hA, by have := hf.len; omega, hx, hT pP hmP, fun H1 h1 => ?_⟩
    have e1 : Ext TS H H1 := ext_tb1 h1 hmP
    have hA1 := e1.obj hT hA (fun ps z => by cases z)
    refine ⟨_, rfl, (n : Int), 0, 8, rfl, by omega, by omega, ?_⟩
    refine ⟨_, rfl, a, f, rfl, SqT.of hA1, hf, hT.ext e1, fun hy H2 p e2 np ep => ?_, fun hy H2 e2 => q2 hy H2 (e1.trans e2)⟩
    have e02 : Ext TS H H2 := e1.trans e2
    refine ⟨_, _, rfl, ?_⟩
    -- unit
    refine ⟨_, rfl, (n : Int), rfl, by omega, by omega, ?_⟩
    rw [Int.toNat_natCast]
    refine for_y (P := fun _ => True) (yl_range 0 n) (fun i σ H' => ∃ y4, σ = [some (.ref a), some (.int (n : Nat)), some (.ref p), some (.int ((10 ^ i : Nat) : Int)), y4, none, none, none] ∧ Same H2 H') ⟨none, rfl, Same.refl _⟩ (fun _ _ _ _ => trivial) ?_ ?_
    · rintro i x σ' H3 H4 hi ⟨y4, rfl, s3⟩ s34 hx
      have hp : (10 : Nat) ^ i ≤ 10 ^ 8 := Nat.pow_le_pow_right (by decide) (by omega)
      refine ⟨_, rfl, 10, _, rfl, rfl, cmul_of (A := 4) (B := 27) (by decide) (by rw [Int.natAbs_natCast]; omega) (by decide), x, ?_, s3.trans s34⟩
      have e : (10 : Int) * ((10 ^ i : Nat) : Int) = ((10 ^ (i + 1) : Nat) : Int) := by
        rw [Nat.pow_succ, Int.natCast_mul, Int.mul_comm]
        rfl
      rw [← e]
      rfl
    rintro σ' H3 ⟨y4, rfl, s3⟩
    have hs := hf.sok hy.1
    have S := Yk.simple_of hy.1 hy.2
    have hu0 : (0 : Int) < ((10 ^ n : Nat) : Int) := by
      have : 0 < 10 ^ n := Nat.pow_pos (by decide)
      omega
    have hu8 : ((10 ^ n : Nat) : Int) ≤ 100000000 := by
      have : (10 : Nat) ^ n ≤ 10 ^ 8 := Nat.pow_le_pow_right (by decide) hn
      omega
    generalize ((10 ^ n : Nat) : Int) = u at *
    generalize hsf : Yk.simp1 f = sf at *
    refine ⟨_, rfl, _, _, rfl, rfl, _, rfl, _, _, rfl, ?_⟩
    have hh0 := Yk.hgt_nn sf
    have hB0 : u ≤ u * (2 * Yk.hgt sf + 1) := by
      have : u * 1 ≤ u * (2 * Yk.hgt sf + 1) := Int.mul_le_mul_of_nonneg_left (by omega) (by omega)
      omega
    generalize hBd : u * (2 * Yk.hgt sf + 1) = B at *
    have far : ∀ h, B ≤ h → Yk.atL sf h u = false := fun h hh => Yk.atL_far S hu0 (by rw [hBd]; exact hh)
    have bits : ∀ h, 0 - u ≤ h → h ≤ 2 * B → h.natAbs < 2 ^ 2000000 := fun h h1 h2 => bits_up (far_bits hs.2.2 hu0 hu8 h1 (by rw [hBd]; exact h2)) (by decide)
    -- the doubling
    refine ⟨fun m σ H' => ∃ (h : Int) (y7 : Option V), σ = [some (.ref a), some (.int (n : Nat)), some (.ref p), some (.int u), y4, some (.int (0 - u)), some (.int h), y7] ∧ Same H2 H' ∧ 0 < h ∧ h ≤ 2 * B ∧ m = (B - h).toNat, ⟨_, u, none, rfl, s3, hu0, by omega, rfl⟩, ?_⟩
    rintro m σ H4 ⟨h, y7, rfl, s4, hh, hh2, em⟩
    refine ⟨_, rfl, _, rfl, _, rfl, p, sf, h, u, rfl, SqT.of (s4 _ _ ep), hs, hu0, hu8, bits h (by omega) hh2, fun H5 s5 => ⟨_, rfl, ite2 (fun z => ?_) (fun z => ?_)⟩⟩
    · have hlt : h < B := by
        refine Int.not_le.mp fun c => ?_
        rw [far h c] at z
        cases z
      refine ⟨fun σ' H' => ∃ m', m' < m ∧ ∃ (h : Int) (y7 : Option V), σ' = [some (.ref a), some (.int (n : Nat)), some (.ref p), some (.int u), y4, some (.int (0 - u)), some (.int h), y7] ∧ Same H2 H' ∧ 0 < h ∧ h ≤ 2 * B ∧ m' = (B - h).toNat, fun σ' H' h => h, ?_⟩
      exact ⟨_, rfl, 2, h, rfl, rfl, cmul_of (A := 2) (B := 2000000) (by decide) (bits h (by omega) hh2) (by decide), (B - 2 * h).toNat, by omega, 2 * h, y7, rfl, s4.trans s5, by omega, by omega, rfl⟩
    · have z : Yk.atL sf h u = false := Bool.eq_false_iff.mpr z
      have z0 : Yk.atL sf (0 - u) u = true := by
        unfold Yk.atL
        rw [decide_eq_true (show 0 - u ≤ 0 - u by omega), Bool.true_or]
      -- the halving
      refine ⟨fun m σ H' => ∃ (l h : Int) (y7 : Option V), σ = [some (.ref a), some (.int (n : Nat)), some (.ref p), some (.int u), y4, some (.int l), some (.int h), y7] ∧ Same H2 H' ∧ 0 - u ≤ l ∧ l < h ∧ h ≤ 2 * B ∧ Yk.atL sf l u = true ∧ Yk.atL sf h u = false ∧ m = (h - l).toNat, ⟨_, 0 - u, h, y7, rfl, s4.trans s5, by omega, by omega, hh2, z0, z, rfl⟩, ?_⟩
      rintro m2 σ2 H6 ⟨l2, h2, w7, rfl, s6, g1, g2, g3, g4, g5, em2⟩
      refine ⟨_, rfl, _, rfl, _, _, rfl, rfl, _, _, rfl, rfl, _, rfl, ite2 (fun y => ?_) (fun y => ?_)⟩
      · have y : 1 < h2 - l2 := of_decide_eq_true y
        refine ⟨fun σ' H' => ∃ m', m' < m2 ∧ ∃ (l h : Int) (y7 : Option V), σ' = [some (.ref a), some (.int (n : Nat)), some (.ref p), some (.int u), y4, some (.int l), some (.int h), y7] ∧ Same H2 H' ∧ 0 - u ≤ l ∧ l < h ∧ h ≤ 2 * B ∧ Yk.atL sf l u = true ∧ Yk.atL sf h u = false ∧ m' = (h - l).toNat, fun σ' H' h => h, ?_⟩
        refine ⟨_, rfl, _, rfl, _, _, rfl, rfl, _, 2, rfl, rfl, ⟨by decide, by decide⟩, ?_⟩
        have hmid : l2 < (l2 + h2) / 2 ∧ (l2 + h2) / 2 < h2 := by omega
        generalize hme : (l2 + h2) / 2 = mid at hmid
        have hme' : (fun i j => V.int (i / j)) (l2 + h2) 2 = V.int mid := congrArg V.int hme
        refine ⟨_, rfl, _, rfl, _, rfl, p, sf, mid, u, congrArg (fun z => [V.ref p, z, V.int u]) hme', SqT.of (s6 _ _ ep), hs, hu0, hu8, bits mid (by omega) (by omega), fun H7 s7 => ⟨_, rfl, ite2 (fun x => ?_) (fun x => ?_)⟩⟩
        · exact ⟨_, rfl, (h2 - mid).toNat, by omega, mid, h2, some (.int mid), by rw [← hme]; rfl, s6.trans s7, by omega, by omega, g3, x, g5, rfl⟩
        · exact ⟨_, rfl, (mid - l2).toNat, by omega, l2, mid, some (.int mid), by rw [← hme]; rfl, s6.trans s7, g1, by omega, by omega, g4, Bool.eq_false_iff.mpr x, rfl⟩
      · have y : ¬ 1 < h2 - l2 := fun c => y (decide_eq_true c)
        have e : h2 = l2 + 1 := by omega
        rw [e] at g5
        exact ⟨_, rfl, q1 hy H6 l2 (e02.trans (Ext.of s6)) g1 g4 g5⟩
end
end Yw
end
section
set_option maxRecDepth 100000
set_option maxHeartbeats 4000000
namespace Yw
open PySem PySem.Spec PyProof.Rows L2 HT
section
variable {P : Program} {w : World} {K : PySem.W.Frag} {mg : Str → Option Value} {base : Heap}
/-! ### _law_taken -/
theorem scTaken : FnScope ["_law_row", "_law_many", "_law_found", "_law_cell"] ["_law_row", "_law_many"] (defScope sTaken) := ⟨rfl, rfl, rfl, by decide +kernel, rfl, by decide +kernel, by decide +kernel⟩
/-- the row: the script, the place, the seed, what is left of a cell -/
def Row (K : PySem.W.Frag) (H : Hp) (row sc : Addr) (ns : List Int) : Prop := SqL K H sc (iv ns) ∧ ns.length ≤ 1000 ∧ ∃ i s l : Int, H row = some (.lst [.ref sc, .int i, .int s, .int l]) ∧ 0 ≤ i ∧ 0 ≤ s ∧ s < 2147483647
theorem sql_upd {H : Hp} {sc row x : Addr} {ns : List Int} {t : List V} {o : HO} (h : SqL K H sc (iv ns)) (e : H row = some (.lst (.ref x :: t))) : SqL K (upd H row o) sc (iv ns) := by
  rcases h with (h | ⟨ob, h⟩) | h
  · refine .inl (.inl ?_)
    have ne : sc ≠ row := ne_of h e (by
      intro z
      cases ns with
      | nil => cases z
      | cons a l => cases z)
    rw [upd_ne ne]
    exact h
  · refine .inl (.inr ⟨ob, ?_⟩)
    rw [upd_ne (ne_of h e (by intro z; cases z))]
    exact h
  · exact .inr h
/-- only the row has changed -/
def RowTo (H : Hp) (row sc : Addr) (H' : Hp) : Prop := ∃ i s l : Int, H' = upd H row (.lst [.ref sc, .int i, .int s, .int l]) ∧ 0 ≤ i ∧ 0 ≤ s ∧ s < 2147483647
def spTaken (K : PySem.W.Frag) : Sp := fun vs H Q _ => ∃ (row sc : Addr) (ns : List Int) (m : Int), vs = [.ref row, .int m] ∧ Row K H row sc ns ∧ 0 < m ∧ m < 1073741824 ∧ ∀ (r : Int) (H' : Hp), 0 ≤ r → r < m → RowTo H row sc H' → Q (.int r) H'
theorem ok_taken {k : Nat} (L : Lib K mg) (T : Txt mg) : FnOk P w K mg base CX0 (k + 1) L.fTaken L.dTaken ["_law_row", "_law_many"] (spTaken K) := by
  refine L.taken.F.ok scTaken (fun vs H Q E h => ?_) (fun cdv A outer s0 H vs Q E hr h => ?_)
  · obtain ⟨row, sc, ns, m, rfl, _⟩ := h
    rfl
  · obtain ⟨row, sc, ns, m, rfl, ⟨hS, hnl, i, s, l, er, hi, hs0, hs1⟩, hm0, hm1, q⟩ := h
    refine ⟨_, pss_cons (ps_if (pt_cmpR op_gt (pe_ix ix_list (pv 0) pe_int (fun _ _ => rfl)) pe_int (nomark _))
        (pss_cons (ps_set (i := 2) scTaken.nd rfl (.inl rfl) (pe_op op_mod (pe_callTy call_int1 (by rfl) T.int boot_int (pa_cons (pe_ix ix_list (pv 0) pe_int (fun _ _ => rfl)) pa_nil)) (pv 1)))
        (pss_cons (ps_asg (pe_op op_fdiv (pe_ix ix_list (pv 0) pe_int (fun _ _ => rfl)) (pv 1)) (pg_sub (pv 0) pe_int set_list))
        (pss_one (ps_ret (pv 2))))) pss_nil)
      (pss_cons (ps_asg (pe_op op_add (pe_ix ix_list (pv 0) pe_int (fun _ _ => rfl)) pe_int) (pg_sub (pv 0) pe_int set_list))
      (pss_cons (ps_if (pt_cmpR op_gt (pe_ix ix_list (pv 0) pe_int (fun _ _ => rfl)) (pe_callB call_len_seq (by rfl) T.len boot_len (pa_cons (pe_ix ix_list (pv 0) pe_int (fun _ _ => rfl)) pa_nil)) (nomark _))
        (pss_cons (ps_asg (pe_op op_mod (pe_callTy call_int1 (by rfl) T.int boot_int (pa_cons (pe_op op_add (pe_op op_mul (pe_ix ix_list (pv 0) pe_int (fun _ _ => rfl)) pe_int) pe_int) pa_nil)) pe_int) (pg_sub (pv 0) pe_int set_list))
        (pss_one (ps_ret (pe_op op_mod (pe_callTy call_int1 (by rfl) T.int boot_int (pa_cons (pe_op op_fdiv (pe_ix ix_list (pv 0) pe_int (fun _ _ => rfl)) pe_int) pa_nil)) (pv 1))))) pss_nil)
      (pss_cons (ps_set (i := 3) scTaken.nd rfl (.inl rfl) (pe_ix ix_list (pe_ix ix_list (pv 0) pe_int (fun _ _ => rfl)) (pe_op op_sub (pe_ix ix_list (pv 0) pe_int (fun _ _ => rfl)) pe_int) (fun _ _ => rfl)))
      (pss_cons (ps_asg (pe_op op_mod (pe_callTy call_int1 (by rfl) T.int boot_int (pa_cons (pe_op op_add (pe_op op_add (pe_op op_mul (pe_ix ix_list (pv 0) pe_int (fun _ _ => rfl)) pe_int) (pv 3)) pe_int) pa_nil)) pe_int) (pg_sub (pv 0) pe_int set_list))
      (pss_cons (ps_if (pt_cmpR op_ge (pv 3) (pe_op op_pow pe_int pe_int) (nomark _)) (pss_one (ps_asg (pe_op op_fdiv (pv 3) (pv 1)) (pg_sub (pv 0) pe_int set_list))) pss_nil)
      (pss_one (ps_ret (pe_op op_mod (pe_callTy call_int1 (by rfl) T.int boot_int (pa_cons (pv 3) pa_nil)) (pv 1))))))))), ?_⟩
    have hm : CDiv 0 m := ⟨hm0, hm1⟩
    -- if row[3] > 0
    refine ⟨_, rfl, row, _, 3, .int l, rfl, rfl, SqL.of er, atI_nat (j := 3) rfl, _, _, rfl, rfl, _, rfl, ite2 (fun z => ?_) (fun z => ?_)⟩
    · refine ⟨_, rfl, row, _, 3, .int l, rfl, rfl, SqL.of er, atI_nat (j := 3) rfl, .inl ⟨_, rfl, _, rfl, l, m, rfl, rfl, hm0, ?_⟩⟩
      refine ⟨_, rfl, row, _, 3, .int l, rfl, rfl, SqL.of er, atI_nat (j := 3) rfl, _, rfl, l, m, rfl, rfl, hm, ?_⟩
      refine ⟨_, rfl, row, _, 3, 3, rfl, rfl, er, ixN_int (m := 3) rfl (by show 3 < 4; decide), ?_⟩
      exact ⟨_, rfl, q _ _ (Int.emod_nonneg _ (by omega)) (Int.emod_lt_of_pos _ hm0) ⟨i, s, l / m, rfl, hi, hs0, hs1⟩⟩
    -- row[1] = row[1] + 1
    refine ⟨_, rfl, row, _, 1, .int i, rfl, rfl, SqL.of er, atI_nat (j := 1) rfl, _, 1, rfl, rfl, ?_⟩
    refine ⟨_, rfl, row, _, 1, 1, rfl, rfl, er, ixN_int (m := 1) rfl (by show 1 < 4; decide), ?_⟩
    have e1 : (upd H row (.lst [.ref sc, .int (i + 1), .int s, .int l])) row = some (.lst [.ref sc, .int (i + 1), .int s, .int l]) := upd_same
    have S1 : SqL K (upd H row (.lst [.ref sc, .int (i + 1), .int s, .int l])) sc (iv ns) := sql_upd hS er
    -- if row[1] > len(row[0])
    refine ⟨_, rfl, row, _, 1, .int (i + 1), rfl, rfl, SqL.of e1, atI_nat (j := 1) rfl, _, rfl, row, _, 0, .ref sc, rfl, rfl, SqL.of e1, atI_nat (j := 0) rfl, sc, iv ns, rfl, .inl S1, _, _, rfl, rfl, _, rfl, ?_⟩
    rw [iv_len]
    refine ite2 (fun y => ?_) (fun y => ?_)
    · refine ⟨_, rfl, row, _, 2, .int s, rfl, rfl, SqL.of e1, atI_nat (j := 2) rfl, s, 48271, rfl, rfl, .inl ⟨by omega, by omega⟩, _, 11, rfl, rfl, .inl ⟨_, rfl, _, 2147483647, rfl, rfl, (by decide : (0 : Int) < 2147483647), ?_⟩⟩
      refine ⟨_, rfl, row, _, 2, 2, rfl, rfl, e1, ixN_int (m := 2) rfl (by show 2 < 4; decide), ?_⟩
      have e2 : (upd (upd H row (.lst [.ref sc, .int (i + 1), .int s, .int l])) row (.lst [.ref sc, .int (i + 1), .int ((s * 48271 + 11) % 2147483647), .int l])) row = some (.lst [.ref sc, .int (i + 1), .int ((s * 48271 + 11) % 2147483647), .int l]) := upd_same
      refine ⟨_, rfl, row, _, 2, .int ((s * 48271 + 11) % 2147483647), rfl, rfl, SqL.of e2, atI_nat (j := 2) rfl, _, 7, rfl, rfl, ⟨by decide, by decide⟩, .inl ⟨_, rfl, _, rfl, _, m, rfl, rfl, hm0, ?_⟩⟩
      refine q _ _ (Int.emod_nonneg _ (by omega)) (Int.emod_lt_of_pos _ hm0) ⟨i + 1, (s * 48271 + 11) % 2147483647, l, upd_upd, by omega, Int.emod_nonneg _ (by decide), Int.emod_lt_of_pos _ (by decide)⟩
    · have y : ¬ (ns.length : Int) < i + 1 := fun c => y (decide_eq_true c)
      have hin : i.toNat < ns.length := by omega
      generalize hcell : ns.getD i.toNat 0 = cell
      have hat : atI (iv ns) (i + 1 - 1) = some (.int cell) := by
        rw [← hcell]
        exact atI_int (by omega) hin
      refine ⟨_, rfl, row, _, 0, .ref sc, rfl, rfl, SqL.of e1, atI_nat (j := 0) rfl, _, rfl, row, _, 1, .int (i + 1), rfl, rfl, SqL.of e1, atI_nat (j := 1) rfl, _, 1, rfl, rfl, sc, iv ns, _, .int cell, rfl, rfl, S1, hat, ?_⟩
      refine ⟨_, rfl, row, _, 2, .int s, rfl, rfl, SqL.of e1, atI_nat (j := 2) rfl, s, 48271, rfl, rfl, .inl ⟨by omega, by omega⟩, _, rfl, _, cell, rfl, rfl, _, 11, rfl, rfl, .inl ⟨_, rfl, _, 2147483647, rfl, rfl, (by decide : (0 : Int) < 2147483647), ?_⟩⟩
      refine ⟨_, rfl, row, _, 2, 2, rfl, rfl, e1, ixN_int (m := 2) rfl (by show 2 < 4; decide), ?_⟩
      have e2 : (upd (upd H row (.lst [.ref sc, .int (i + 1), .int s, .int l])) row (.lst [.ref sc, .int (i + 1), .int ((s * 48271 + cell + 11) % 2147483647), .int l])) row = some (.lst [.ref sc, .int (i + 1), .int ((s * 48271 + cell + 11) % 2147483647), .int l]) := upd_same
      refine ⟨_, rfl, 10, 18, rfl, rfl, ⟨by decide, by decide, by decide⟩, _, _, rfl, rfl, _, rfl, ite2 (fun x => ?_) (fun x => ?_)⟩
      · refine ⟨_, rfl, _, rfl, cell, m, rfl, rfl, hm, ?_⟩
        refine ⟨_, rfl, row, _, 3, 3, rfl, rfl, e2, ixN_int (m := 3) rfl (by show 3 < 4; decide), ?_⟩
        refine ⟨_, rfl, .inl ⟨_, rfl, _, rfl, cell, m, rfl, rfl, hm0, ?_⟩⟩
        refine q _ _ (Int.emod_nonneg _ (by omega)) (Int.emod_lt_of_pos _ hm0) ⟨i + 1, (s * 48271 + cell + 11) % 2147483647, cell / m, ?_, by omega, Int.emod_nonneg _ (by decide), Int.emod_lt_of_pos _ (by decide)⟩
        exact (upd_upd).trans upd_upd
      · refine ⟨_, rfl, .inl ⟨_, rfl, _, rfl, cell, m, rfl, rfl, hm0, ?_⟩⟩
        refine q _ _ (Int.emod_nonneg _ (by omega)) (Int.emod_lt_of_pos _ hm0) ⟨i + 1, (s * 48271 + cell + 11) % 2147483647, l, upd_upd, by omega, Int.emod_nonneg _ (by decide), Int.emod_lt_of_pos _ (by decide)⟩
/-! ### _law_pick -/
theorem scPick : FnScope ["_law_row", "_law_things"] ["_law_row", "_law_things"] (defScope sPick) := ⟨rfl, rfl, rfl, by decide +kernel, rfl, by decide +kernel, by decide +kernel⟩
def spPick (K : PySem.W.Frag) : Sp := fun vs H Q _ => ∃ (row sc th : Addr) (ns xs : List Int), vs = [.ref row, .ref th] ∧ Row K H row sc ns ∧ SqL K H th (iv xs) ∧ xs ≠ [] ∧ xs.length ≤ 1000 ∧ ∀ (x : Int) (H' : Hp), x ∈ xs → RowTo H row sc H' → Q (.int x) H'
theorem ok_pick {k : Nat} (L : Lib K mg) (T : Txt mg) : FnOk P w K mg base CX0 (k + 2) L.fPick L.dPick ["_law_row", "_law_things"] (spPick K) := by
  refine L.pick.F.ok scPick (fun vs H Q E h => ?_) (fun cdv A outer s0 H vs Q E hr h => ?_)
  · obtain ⟨row, sc, th, ns, xs, rfl, _⟩ := h
    rfl
  · obtain ⟨row, sc, th, ns, xs, rfl, hR, hT, hx, hxl, q⟩ := h
    have OT := ok_taken (P := P) (w := w) (base := base) (k := k) L T
    refine ⟨_, pss_one (ps_ret (pe_ix ix_list (pv 1) (pe_call OT hr (by rfl) L.taken.m L.taken.F.kp L.taken.b .nil pass0 (pa_cons (pv 0) (pa_cons (pe_callB call_len_seq (by rfl) T.len boot_len (pa_cons (pv 1) pa_nil)) pa_nil))) (fun _ _ => rfl))), ?_⟩
    have hx1 := List.length_pos_iff.mpr hx
    obtain ⟨_, _, i, s, l, er, _⟩ := id hR
    refine ⟨_, rfl, _, rfl, _, rfl, th, iv xs, rfl, .inl hT, row, sc, ns, _, rfl, hR, by rw [iv_len]; omega, by rw [iv_len]; omega, fun r H1 h0 h1 h2 => ?_⟩
    rw [iv_len] at h1
    have hT1 : SqL K H1 th (iv xs) := by
      obtain ⟨i', s', l', rfl, _⟩ := h2
      exact sql_upd hT er
    have hr' : r.toNat < xs.length := by omega
    refine ⟨th, iv xs, r, .int (xs.getD r.toNat 0), rfl, rfl, hT1, atI_int (by omega) hr', q _ H1 ?_ h2⟩
    rw [List.getD_eq_getElem?_getD, List.getElem?_eq_getElem hr']
    exact List.getElem_mem hr'
/-! ### _law_sign -/
theorem scSign : FnScope ["_law_payments", "_law_top", "_law_bottom", "_law_found", "_law_scale", "_law_one"] ["_law_payments", "_law_top", "_law_bottom"] (defScope sSign) := ⟨rfl, rfl, rfl, by decide +kernel, rfl, by decide +kernel, by decide +kernel⟩
def spSign (K : PySem.W.Frag) : Sp := fun vs H Q _ => ∃ (a : Addr) (xs : List Int) (t b : Int) (C T : Nat), vs = [.ref a, .int t, .int b] ∧ SqT K H a (iv xs) ∧ t.natAbs < 2 ^ T ∧ b.natAbs < 2 ^ T ∧ Yk.Bd C xs ∧ xs.length ≤ 1000 ∧ C + (xs.length + 1) * (T + 1) < 134000000 ∧ ∀ H', Same H H' → Q (.int (Yk.sgn (Yk.val xs t b))) H'
theorem ok_sign {k : Nat} (L : Lib K mg) (T : Txt mg) : FnOk P w K mg base CX0 (k + 1) L.fSign L.dSign ["_law_payments", "_law_top", "_law_bottom"] (spSign K) := by
  refine L.sign.F.ok scSign (fun vs H Q E h => ?_) (fun cdv A outer s H vs Q E hr h => ?_)
  · obtain ⟨a, xs, t, b, C, B, rfl, _⟩ := h
    rfl
  · obtain ⟨a, xs, t, b, C, B, rfl, hA, ht, hb, hc, hlen, hM, q⟩ := h
    refine ⟨_, pss_cons (ps_asg (pe_tup (pa_cons pe_int (pa_cons pe_int pa_nil))) (pg_tup rfl (pgs_cons (pg_name (i := 3) scSign.nd rfl (.inl rfl)) (pgs_cons (pg_name (i := 4) scSign.nd rfl (.inl rfl)) pgs_nil))))
      (pss_cons (ps_for PassesOwn.never rfl (pi_tup (pe_revT (pv 0))) (pg_name (i := 5) scSign.nd rfl (.inl rfl))
        (pss_one (ps_par (i := 3) (j := 4) rfl scSign.nd rfl rfl (by decide) rfl rfl (pa_cons (pe_op op_add (pe_op op_mulG (pv 3) (pv 1)) (pe_op op_mulG (pv 5) (pv 4))) (pa_cons (pe_op op_mulG (pv 4) (pv 2)) pa_nil)) rfl)))
      (pss_one (ps_ret (pe_ifExp (pt_cmpR op_gt (pv 3) pe_int (nomark _)) pe_int (pe_ifExp (pt_cmpR op_lt (pv 3) pe_int (nomark _)) (pe_un un_neg pe_int) pe_int))))), ?_⟩
    refine ⟨Nat.le_of_lt (small1000 (n := 2) (by decide)), fun p0 np0 => ⟨p0, _, rfl, SqT.of upd_same, rfl, _, _, rfl, _, _, rfl, rfl, ?_⟩⟩
    have s0 : Same H (upd H p0 (.tup [.int 0, .int 1])) := sameU np0
    refine ⟨_, rfl, a, iv xs, rfl, sameT s0 hA, fun r nr => ?_⟩
    have sr : Same H (upd (upd H p0 (.tup [.int 0, .int 1])) r (.tup (iv xs).reverse)) := s0.trans (sameU nr)
    refine ⟨r, rfl, ⟨_, SqT.of upd_same⟩, for_y (P := fun H' => Same (upd (upd H p0 (.tup [.int 0, .int 1])) r (.tup (iv xs).reverse)) H') (yl_tup fun H' s' => SqT.of (s' _ _ upd_same))
      (fun i σ H' => ∃ y, σ = [some (.ref a), some (.int t), some (.int b), some (.int (Yk.vof (xs.drop (xs.length - i)) t b).1), some (.int (Yk.vof (xs.drop (xs.length - i)) t b).2), y] ∧ Same (upd (upd H p0 (.tup [.int 0, .int 1])) r (.tup (iv xs).reverse)) H') ⟨none, ?_, Same.refl _⟩ (fun i σ H' h => h.choose_spec.2) ?_ ?_⟩
    · rw [Nat.sub_zero, List.drop_length]
      rfl
    · rintro i x σ' H1 H2 hi ⟨y, rfl, s1⟩ s12 hx
      rw [List.length_reverse, iv_len] at hi
      have hx' : xs[xs.length - 1 - i]? = some (xs.getD (xs.length - 1 - i) 0) := by
        rw [List.getD_eq_getElem?_getD, List.getElem?_eq_getElem (by omega)]
        rfl
      have ex : x = .int (xs.getD (xs.length - 1 - i) 0) := by
        rw [List.getElem?_reverse (by rw [iv_len]; exact hi), iv_len] at hx
        obtain ⟨b', h1, h2⟩ := iv_at hx
        rw [hx'] at h1
        rw [h2, Option.some.inj h1]
      subst ex
      have ed : xs.drop (xs.length - (i + 1)) = xs.getD (xs.length - 1 - i) 0 :: xs.drop (xs.length - i) := by
        have e1 : xs.length - (i + 1) = xs.length - 1 - i := by omega
        have e2 : xs.length - i = xs.length - 1 - i + 1 := by omega
        rw [e1, e2]
        obtain ⟨h1, h2⟩ := List.getElem?_eq_some_iff.mp hx'
        rw [← h2]
        exact List.drop_eq_getElem_cons h1
      have hbd : Yk.Bd C (xs.drop (xs.length - i)) := hc.drop _
      obtain ⟨v1, v2⟩ := Yk.vof_len_bits ht hb _ hbd
      rw [List.length_drop, show xs.length - (xs.length - i) = i by omega] at v1 v2
      have hcx : (xs.getD (xs.length - 1 - i) 0).natAbs < 2 ^ C := Yk.bd_getD hc _
      have m1 : (i + 2) * (B + 1) ≤ (xs.length + 1) * (B + 1) := Nat.mul_le_mul_right _ (by omega)
      rw [Nat.succ_mul, Nat.succ_mul] at m1
      have m2 : i * B ≤ i * (B + 1) := Nat.mul_le_mul_left _ (Nat.le_succ _)
      refine ⟨_, rfl, _, rfl, _, t, rfl, rfl, cmul_of v1 ht (by omega), _, rfl, _, rfl, _, _, rfl, rfl, cmul_of hcx v2 (by omega), _, _, rfl, rfl, _, rfl, _, rfl, _, b, rfl, rfl, cmul_of v2 hb (by omega), _, _, rfl, some (.int (xs.getD (xs.length - 1 - i) 0)), ?_, s1.trans s12⟩
      rw [ed]
      rfl
    · rintro σ' H1 ⟨y, rfl, s1⟩
      rw [List.length_reverse, iv_len, Nat.sub_self, List.drop_zero]
      have q1 := q _ (sr.trans s1)
      unfold Yk.sgn Yk.val at q1
      refine ⟨_, rfl, _, _, rfl, rfl, _, rfl, ite2 (fun z => ?_) (fun z => ?_)⟩
      · rw [if_pos (of_decide_eq_true z)] at q1
        exact q1
      · rw [if_neg (fun e => z (decide_eq_true e))] at q1
        refine ⟨_, rfl, _, _, rfl, rfl, _, rfl, ite2 (fun x => ?_) (fun x => ?_)⟩
        · rw [if_pos (of_decide_eq_true x)] at q1
          exact ⟨1, rfl, q1⟩
        · rw [if_neg (fun e => x (decide_eq_true e))] at q1
          exact q1
end
end Yw
end
section
set_option maxRecDepth 100000
set_option maxHeartbeats 4000000
namespace Yw
open PySem PySem.Spec PyProof.Rows L2 HT
/-! ### int('1' + '0' * n) -/
theorem op_mulS {X : Cx} : OpR X (binaryOp .Mult) (fun x y H Q => ∃ z n, x = .str z ∧ y = .int n ∧ MulOk z n ∧ Q (.str (Txt.mul z n)) H) := by
  intro pins s σ H x y v u Q I rx ry h
  obtain ⟨z, n, rfl, rfl, hok, q⟩ := h
  obtain ⟨t, rfl⟩ := rx
  obtain ⟨t', rfl⟩ := ry
  exact PySem.SB.mul hok fun t'' k => ⟨.str (Txt.mul z n), H, I.kept (t' := k) fun _ _ e => e, ⟨_, rfl⟩, q⟩
theorem unit_text : ∀ n : Nat, n ≤ 8 → MulOk ("0" : Str) (n : Int) ∧ ("1" : Str).length + (Txt.mul ("0" : Str) (n : Int)).length ≤ sizeLine ∧ intText? (("1" : Str) ++ Txt.mul ("0" : Str) (n : Int)) = some ((10 ^ n : Nat) : Int) ∧ (("1" : Str) ++ Txt.mul ("0" : Str) (n : Int)).length ≤ 640 := by
  intro n hn
  have key : ∀ m : Nat, m < 9 → (MulOk ("0" : Str) (m : Int) ∧ ("1" : Str).length + (Txt.mul ("0" : Str) (m : Int)).length ≤ 100 ∧ intText? (("1" : Str) ++ Txt.mul ("0" : Str) (m : Int)) = some ((10 ^ m : Nat) : Int) ∧ (("1" : Str) ++ Txt.mul ("0" : Str) (m : Int)).length ≤ 640) := by
    unfold MulOk
    decide +kernel
  obtain ⟨h1, h2, h3, h4⟩ := key n (by omega)
  exact ⟨h1, Nat.le_trans h2 (Nat.le_of_lt (small1000 (by decide))), h3, h4⟩
/-! ### a lambda made: all but its maker's table stays -/
def But (P : Addr) (H H' : Hp) : Prop := ∀ b o, H b = some o → b ≠ P → H' b = some o
section
variable {X : Cx} {pins : List (Addr × Obj)} {σ : L2.St} {H : Hp} {s : Shared}
theorem lam_made {c P : Addr} {params : Arguments} {body : Expr} {scope : Scope} {pos : Pos} {E : Value → Shared → Prop} {Q : Value → Shared → Prop} (I : Inv X pins σ H s) (TB : LamX.TabB X.base X.mg c P) (hcode : X.env.code = .ref c)
    (hT : LamX.TabS H P (X.env.qual ++ "<lambda>")) (hdef : defaultsOf params X.env = ([], [])) (hfree : ∀ y ∈ scope.names, y.2 = .free → ∃ c, X.env.cells.lookup y.1 = some c)
    (h : ∀ (f c' : Addr) (pm ctv : Value) (H1 : Hp) (s' : Shared), Inv X pins σ H1 s' → But P H H1 → LamX.TabS H1 P (X.env.qual ++ "<lambda>") →
      s'.heap.get? f = some (PySem.W.kla_obj "<lambda>" (X.env.qual ++ "<lambda>") params body scope (cloFrom X.env.cells scope.names []) pm c' ctv) → H1 f = none → f ∉ frs X.stack → H1 c' = some (LamX.CodeO c' (X.env.qual ++ "<lambda>")) → Q (.ref f) s') :
    wpAny (model X.prog X.w) X.A (eval (.Lambda params body scope pos) X.env) Q E s := by
  obtain ⟨ps, hP, ht, ha⟩ := hT
  have bP : s.heap.BuiltinsAt X.mg P := TB.bm.keeps I.bk
  have hP' : s.heap.get? P = some { cls := .none, data := .fields ps } := I.hok P _ hP
  have nofr : ∀ f, s.heap.objs.size ≤ f → f ∉ frs X.stack := fun f hf z => by
    rcases List.mem_cons.mp (I.stkSub _ z) with e | e
    · rw [e] at hf
      exact Nat.lt_irrefl _ (Nat.lt_of_lt_of_le I.lt hf)
    · exact I.nofs hf e
  refine PySem.W.kla_eval hdef ?_
  cases hc : codeAmong pos ps.toList with
  | some cv =>
    obtain ⟨c', e, hco⟩ := ha pos cv hc
    subst e
    refine PySem.W.kla_makeFunctionHit (mg := X.mg) (c := c) (P := P) (ps := ps) (closure_ok hfree) I.ok.glob (I.mod.glob.keeps I.bk) hcode (TB.code.keeps I.bk) hP' ht hc bP fun ctv h' tk hx hsz => ?_
    refine h h'.objs.size c' _ ctv H _ (I.kept (t' := tk) fun b o e => Heap.get?_push_of_some _ (hx b o e)) (fun _ _ e _ => e) ⟨ps, hP, ht, ha⟩ (Heap.get?_push_size _ rfl) (I.hok.fresh hsz) (nofr _ hsz) hco
  | none =>
    refine PySem.W.kla_makeFunction (mg := X.mg) (c := c) (P := P) (ps := ps) (closure_ok hfree) I.ok.glob (I.mod.glob.keeps I.bk) hcode (TB.code.keeps I.bk) hP' ht hc TB.gP bP fun c' ctv h' tk hx hge hlt hrec htb => ?_
    obtain ⟨c2, oc, vs, t, e2, hoc, hd, hv⟩ := hrec
    cases e2
    have nC : H c' = none := I.hok.fresh hge
    have hsz : s.heap.objs.size ≤ h'.objs.size := Nat.le_trans hge (Nat.le_of_lt hlt)
    have J := LamX.inv_table (q := X.env.qual ++ "<lambda>") (t' := tk) (more := #[rawInt pos.line, rawInt pos.col, .ref c']) (h' := h'.push (PySem.W.kla_obj "<lambda>" (X.env.qual ++ "<lambda>") params body scope (cloFrom X.env.cells scope.names []) ((X.mg "__name__").getD .none) c' ctv)) I hP
      (fun b o hb e => Heap.get?_push_of_some _ (hx b o hb e)) (Heap.get?_push_of_some _ htb) hge ⟨oc, vs, t, Heap.get?_push_of_some _ hoc, hd, hv⟩
    have hB : But P H (upd (upd H P (.tbl (ps ++ #[rawInt pos.line, rawInt pos.col, .ref c']))) c' (LamX.CodeO c' (X.env.qual ++ "<lambda>"))) := fun b o e n => by
      rw [upd_ne (ne_of_none e nC), upd_ne n]
      exact e
    have eL : (ps ++ #[rawInt pos.line, rawInt pos.col, .ref c']).toList = ps.toList ++ [rawInt pos.line, rawInt pos.col, .ref c'] := by simp
    refine h h'.objs.size c' _ ctv _ _ J hB ⟨_, by rw [upd_ne (ne_of_none hP nC), upd_same], by rw [eL]; exact PySem.TriplesOk_snoc _ _ _ _ ht, fun p' cv hcv => ?_⟩ (Heap.get?_push_size _ rfl) ?_ (nofr _ hsz) upd_same
    · rw [eL] at hcv
      rcases LamX.among_app _ ht hcv with z | z
      · obtain ⟨c0, e1, e2⟩ := ha p' cv z
        exact ⟨c0, e1, hB _ _ e2 fun w => by
          rw [w, hP] at e2
          exact LamX.codeO_ne ps (Option.some.inj e2).symm⟩
      · exact ⟨c', z, upd_same⟩
    · rw [upd_ne (Nat.ne_of_gt hlt), upd_ne (Nat.ne_of_gt (Nat.lt_of_lt_of_le (Heap.lt_size hP') hsz))]
      exact I.hok.fresh hsz
end
def tLamY (P : Addr) (q : Str) (TT : (XK → Hp → VK → Prop) → Hp → VK → Prop) (t : XK → TE) : TE := fun σ H Q => LamX.TabS H P q ∧ ∀ H1, But P H H1 → LamX.TabS H1 P q → TT (fun E H' Q' => t E σ H' Q') H1 Q
section
variable {X : Cx}
/-- x(lambda: body) -/
theorem pe_lamY {TT : (XK → Hp → VK → Prop) → Hp → VK → Prop} {x a : Str} {g c P : Addr} {k : Nat} {pg : Arguments} {bg : List Stmt} {sg : Scope} {dV kV doc pm cdv ct oc : Value} {an od : Option Addr} {osl : Array (Option Value)} {Ng : List Str}
    {params : Arguments} {body : Expr} {scope : Scope} {t : XK → TE} {p lpos pos : Pos} (hg : Gl X x) (hm : X.mg x = some (.ref g)) (hk : PySem.W.keepIn X.K (.ref g) = true)
    (lk : X.K.lookup g = some ⟨oc, od, .func (PySem.W.fnOf x x pg bg sg dV kV doc pm an cdv ct), osl⟩) (hcg : PySem.W.codeIn X.K cdv x = true) (hb : L2.Binds X.K (PySem.W.fnOf x x pg bg sg dV kV doc pm an cdv ct) [a] []) (Sg : FnScope Ng [a] sg) (hNg : Ng[0]? = some a) (hva : Vis sg a)
    (hG : LamX.GivesTo X Ng x sg g cdv bg a (X.env.qual ++ "<lambda>") TT) (TB : LamX.TabB X.base X.mg c P) (hcode : X.env.code = .ref c) (hr : Room (k + 2) X.A) (L : LamX.LamS X.env.scope scope) (hdef : defaultsOf params X.env = ([], []))
    (hbind : ∀ (q : Str) (cl : List (Str × Addr)) (pm cv ctv : Value), bindArgs (PySem.W.kla_fn "<lambda>" q params body scope cl pm cv ctv) ⟨[], []⟩ = pure [])
    (hbody : ∀ (A : Around) (outer : List Env) (s : Shared) (H : Hp) (E : XK) (f c' : Addr), Room k (A.deeper (LamX.lamEnv X scope s.heap.objs.size f c')) → PE (LamX.lamCx X A outer s H E scope f c') body (t E))
    (hdb : (x == ("__debug__" : Str)) = false := by decide) (hd : (a == ("__debug__" : Str)) = false := by decide) (hcd : (a == ("__classdict__" : Str)) = false := by decide) :
    PE X (.Call (.Name x p) [.Lambda params body scope lpos] [] pos) (tLamY P (X.env.qual ++ "<lambda>") TT t) := by
  refine ⟨fun pins s σ H Q I ⟨hT, h⟩ => ?_⟩
  refine wpAny_Call_Name_kw (ld_glob I hg hm ?_ hdb)
  refine PySem.W.callWith_K (h₀ := X.base) I.ok.mod.kin hk ?_ (by rfl) (by rfl)
  show wpAny _ _ (spliced ((false, eval (.Lambda params body scope lpos) X.env) :: backTo pos (starEach [] X.env))) _ _ s
  refine Calls.spliced_cons (lam_made I TB hcode hT hdef (L.has I.ok) fun f c' pm' ctv H1 s' I1 eN T1 hf hfn hfr hco => ?_)
  refine Calls.spliced_nil ⟨I1.kIn, wpAny_call (codeAny_mono (LamX.run_ofS (CX := C8.CX0) (Q := Q) (E := C8.E0) (N := Ng) (ps := [a]) (us := [.ref f]) (vs := [.ref f]) lk hcg Sg hr I1.env0 (hb s' [.ref f] I1.kIn rfl) (.cons rfl .nil) rfl fun hr' => ?_) fun r s2 hq => ?_)⟩
  · obtain ⟨t', ht', hq'⟩ := hG f c' s' H1 Q (fun E H' Q' => t E σ H' Q') (fun W pn xe E p1 p2 tk hW => LamX.pe_act (i := 0) I1 L hf hfn hfr (hbind _ _ _ _ _) tk hW hr' (fun A outer s H hr2 => hbody A outer s H E f c' hr2) hNg hva hd hcd) hco (h H1 eN T1)
    exact ⟨t', ht'.nox, hq'⟩
  · cases r with
    | error e => exact (show False from hq).elim
    | ok fl =>
      cases fl with
      | ret u => exact I1.after hq
      | next => exact False.elim hq
      | brk => exact False.elim hq
      | cont => exact False.elim hq
/-! ### _law_told -/
/-- isinstance(e, D), e the exception that the suite holds, of the class D -/
theorem call_isE2 {a D : Addr} {oe : Obj} {cls : Value} {d : Option Addr} {pn : List (Addr × Obj)} (C : ExcC X.K D) (hz : Zc cls d oe) (hf : ∃ vs, oe.data = .fields vs) :
    CallR (X.suite a ((a, oe) :: pn)) (.builtin "isinstance") (fun xs H Q => (cls = .ref D ∧ d = none) ∧ rIsE X.K D a xs H Q) := by
  rintro pins s σ H xs us Q I r ⟨⟨rfl, rfl⟩, h⟩
  exact call_isE C hz hf pins s σ H xs us Q I r h
end
theorem scTold : FnScope ["_law_work", "e"] ["_law_work"] (defScope sTold) := ⟨rfl, rfl, rfl, by decide +kernel, rfl, by decide +kernel, by decide +kernel⟩
/-- what the lambda gives, None at NoYield -/
def TTold (cN : Addr) : (XK → Hp → VK → Prop) → Hp → VK → Prop := fun tl H Q => tl (fun cls d H' => (cls = .ref cN ∧ d = none) ∧ Q .non H') H Q
theorem takes_len {X : Cx} {W : WX} (t : Takes X W) : Takes X (fun cls d σ H => σ.length = X.N.length → W cls d σ H) := fun u s' ⟨a, B, sI, pins, σ, H, cls, d, e, I, nb, up, sky, na, os, ag, w⟩ =>
  t u s' ⟨a, B, sI, pins, σ, H, cls, d, e, I, nb, up, sky, na, os, ag, w I.len⟩
theorem told_gives {X : Cx} {q : Str} {g cN cL : Addr} {cdg : Value} (EX : Exs X.K X.mg cN cL) (T : Txt X.mg) : LamX.GivesTo X ["_law_work", "e"] "_law_told" (defScope sTold) g cdg (defBody sTold) "_law_work" q (TTold cN) := by
  intro f c' s H Q tl act hc h
  refine ⟨_, pss_one (ps_try_as (X := (cxOf C8.CX0 X.prog X.w X.K X.mg X.base ["_law_work", "e"] "_law_told" (defScope sTold) g cdg X.A X.stack s H C8.E0).nox) (c := .ref cL) (i := 1)
      (tb := fun W D σ H => ∃ Ech : XK, (∀ cls d σ' H', σ'.length = 2 → Ech cls d H' → W cls d σ' H') ∧ σ[0]? = some (some (.ref f)) ∧ H c' = some (LamX.CodeO c' q) ∧ tl Ech H D.rt)
      rfl rfl scTold.nd rfl rfl ⟨rfl, by decide, .inl EX.gL⟩ L2.takes0 (fun W pn xe tk _ => ?_)
      (fun a oe cls d pn hz hf => pss_one (ps_ret (pe_ifExp (pt_val (pe_callB (call_isE2 (D := cN) EX.isN hz hf) rfl T.isinstance boot_isinstance (pa_cons (pv 1) (pa_cons (pe_glob (v := .ref cN) rfl EX.gN rfl) pa_nil)))) pe_non pe_str)))), ?_⟩
  · refine ⟨fun pins s' σ H' D I h' => ?_⟩
    obtain ⟨Ech, hW, h1, h2, h3⟩ := h'
    have hp := fun p1 p2 => act (fun cls d σ H => σ.length = 2 → W cls d σ H) pn xe Ech p1 p2 (takes_len tk) (fun cls d σ' H' he hl => hW cls d σ' H' hl he)
    exact (pss_one (ps_ret (hp _ _))).run pins s' σ H' D I ⟨h1, h2, h3⟩
  · refine ⟨fun cls d H' => (cls = .ref cN ∧ d = none) ∧ Q .non H', fun cls d σ' H' hl he => ?_, rfl, hc, h⟩
    obtain ⟨⟨rfl, rfl⟩, q⟩ := he
    refine ⟨true, EX.catches, fun _ b hb => ?_, fun z => nomatch z⟩
    match σ', hl with
    | [x, y], _ => exact ⟨_, rfl, ⟨rfl, rfl⟩, .ref cN, .ref cN, true, rfl, (fun u r => r), EX.one, true, rfl, q⟩
end Yw
end
section
set_option maxRecDepth 100000
set_option maxHeartbeats 4000000
namespace Yk
def nz (f : List Int) : List Int := f.filter (fun x => decide (x ≠ 0))
theorem nz_head : ∀ {f : List Int} {a : Int} {m : List Int}, strip f = a :: m → ∃ t, nz f = a :: t
  | [], a, m, h => by cases h
  | b :: l, a, m, h => by
    unfold strip at h
    unfold nz
    by_cases z : b = 0
    · rw [if_pos z] at h
      rw [List.filter_cons, if_neg (fun e => (of_decide_eq_true e : b ≠ 0) z)]
      exact nz_head h
    · rw [if_neg z] at h
      rw [List.filter_cons, if_pos (decide_eq_true z)]
      cases h
      exact ⟨_, rfl⟩
theorem nz_last : ∀ (n : Nat) (f : List Int), f.length ≤ n → (∃ x ∈ f, x ≠ 0) → ∃ t, nz f = t ++ [lead (trim f)]
  | 0, f, hn, h => by
    obtain ⟨x, hx, _⟩ := h
    rw [List.length_eq_zero_iff.mp (Nat.le_zero.mp hn)] at hx
    cases hx
  | n + 1, f, hn, h => by
    by_cases hf : f = []
    · subst hf
      obtain ⟨x, hx, _⟩ := h
      cases hx
    · have e := (List.dropLast_concat_getLast hf).symm
      generalize f.dropLast = g at e
      generalize f.getLast hf = b at e
      subst e
      rw [List.length_append, List.length_singleton] at hn
      unfold nz
      rw [List.filter_append]
      by_cases z : b = 0
      · subst z
        rw [trim_snoc_zero]
        obtain ⟨t, ht⟩ := nz_last n g (by omega) (by
          obtain ⟨x, hx, h0⟩ := h
          rcases List.mem_append.mp hx with c | c
          · exact ⟨x, c, h0⟩
          · exact absurd (List.mem_singleton.mp c) h0)
        refine ⟨t, ?_⟩
        unfold nz at ht
        rw [ht]
        simp
      · rw [trim_of_lead (by rw [lead_append_singleton]; exact z), lead_append_singleton]
        refine ⟨g.filter (fun x => decide (x ≠ 0)), ?_⟩
        simp [z]
theorem strip_some {f : List Int} (h : ∃ x ∈ f, x ≠ 0) : ∃ a m, strip f = a :: m := by
  obtain ⟨a, m, e, _⟩ := strip_head h
  exact ⟨a, m, e⟩
end Yk
namespace Yw
open PySem PySem.Spec PyProof.Rows L2 HT
/-! ### the law's heap -/
/-- all but lists stays -/
def NL (H H' : Hp) : Prop := ∀ b o, H b = some o → (∀ l, o ≠ .lst l) → H' b = some o
theorem NL.of {H H' : Hp} (s : Same H H') : NL H H' := fun b o e _ => s b o e
theorem NL.trans {H H1 H2 : Hp} (a : NL H H1) (b : NL H1 H2) : NL H H2 := fun c o e n => b c o (a c o e n) n
theorem NL.upd {H : Hp} {r : Addr} {l l' : List V} (e : H r = some (.lst l)) : NL H (upd H r (.lst l')) := fun b o h n => by
  rw [upd_ne (ne_of h e (n l))]
  exact h
section
variable {K : PySem.W.Frag} {H0 H H' : Hp} {row sc pl : Addr} {ns ps : List Int}
structure L0 (K : PySem.W.Frag) (H0 : Hp) (row sc pl : Addr) (ns : List Int) : Prop where
  s0 : SqL K H0 sc (iv ns)
  r0 : H0 row = none
  p0 : H0 pl = none
  ne : row ≠ pl
structure LW (K : PySem.W.Frag) (H0 H : Hp) (row sc pl : Addr) (ns ps : List Int) : Prop where
  nl : NL H0 H
  row : Row K H row sc ns
  pay : H pl = some (.lst (iv ps))
theorem sql_new {r : Addr} {xs : List V} {o : HO} (h0 : SqL K H0 sc xs) (h : SqL K H sc xs) (nr : H0 r = none) : SqL K (upd H r o) sc xs := by
  have ne : (∃ u, H0 sc = some u) → sc ≠ r := fun ⟨u, e⟩ => ne_of_none e nr
  rcases h with (h | ⟨ob, h⟩) | h
  · rcases h0 with (h0 | ⟨ob, h0⟩) | h0
    · exact .inl (.inl (by rw [upd_ne (ne ⟨_, h0⟩)]; exact h))
    · exact .inl (.inl (by rw [upd_ne (ne ⟨_, h0⟩)]; exact h))
    · exact .inr h0
  · rcases h0 with (h0 | ⟨ob2, h0⟩) | h0
    · exact .inl (.inr ⟨ob, by rw [upd_ne (ne ⟨_, h0⟩)]; exact h⟩)
    · exact .inl (.inr ⟨ob, by rw [upd_ne (ne ⟨_, h0⟩)]; exact h⟩)
    · exact .inr h0
  · exact .inr h
theorem LW.same (w : LW K H0 H row sc pl ns ps) (s : Same H H') : LW K H0 H' row sc pl ns ps := by
  obtain ⟨a, ⟨b, n, i, s0, l, e, c⟩, p⟩ := w
  exact ⟨a.trans (NL.of s), ⟨s.seq b, n, i, s0, l, s _ _ e, c⟩, s _ _ p⟩
theorem LW.to (w : LW K H0 H row sc pl ns ps) (z : L0 K H0 row sc pl ns) (h : RowTo H row sc H') : LW K H0 H' row sc pl ns ps := by
  obtain ⟨a, ⟨b, n, i, s, l, e, c⟩, p⟩ := w
  obtain ⟨i', s', l', rfl, c'⟩ := h
  exact ⟨a.trans (NL.upd e), ⟨sql_new z.s0 b z.r0, n, i', s', l', upd_same, c'⟩, by rw [upd_ne (fun q => z.ne q.symm)]; exact p⟩
theorem LW.set (w : LW K H0 H row sc pl ns ps) (z : L0 K H0 row sc pl ns) (qs : List Int) : LW K H0 (upd H pl (.lst (iv qs))) row sc pl ns qs := by
  obtain ⟨a, ⟨b, n, i, s, l, e, c⟩, p⟩ := w
  exact ⟨a.trans (NL.upd p), ⟨sql_new z.s0 b z.p0, n, i, s, l, by rw [upd_ne z.ne]; exact e, c⟩, upd_same⟩
end
/-! ### what the two lambdas give -/
theorem tabS_ext {H H' : Hp} {P : Addr} {q : Str} {TS : List Addr} (t : LamX.TabS H P q) (e : Ext TS H H') (hT : Tbl TS H) (n : P ∉ TS) : LamX.TabS H' P q := by
  obtain ⟨ps, h1, h2, h3⟩ := t
  refine ⟨ps, e.keep _ _ h1 n, h2, fun pos cv hc => ?_⟩
  obtain ⟨c, e1, e2⟩ := h3 pos cv hc
  exact ⟨c, e1, e.obj hT e2 fun ps' => LamX.codeO_ne ps'⟩
theorem tabS_nl {H H' : Hp} {P : Addr} {q : Str} (t : LamX.TabS H P q) (e : NL H H') : LamX.TabS H' P q := by
  obtain ⟨ps, h1, h2, h3⟩ := t
  refine ⟨ps, e _ _ h1 (fun l z => by cases z), h2, fun pos cv hc => ?_⟩
  obtain ⟨c, e1, e2⟩ := h3 pos cv hc
  exact ⟨c, e1, e _ _ e2 fun l z => by
    unfold LamX.CodeO at z
    cases z⟩
theorem tbl_nl {TS : List Addr} {H H' : Hp} (t : Tbl TS H) (e : NL H H') : Tbl TS H' := fun P m => by
  obtain ⟨ps, h1, h2⟩ := t P m
  exact ⟨ps, e _ _ h1 (fun l z => by cases z), h2⟩
theorem tbl_but {TS : List Addr} {P : Addr} {H H' : Hp} (t : Tbl TS H) (e : But P H H') (n : P ∉ TS) : Tbl TS H' := fun p m => by
  obtain ⟨ps, h1, h2⟩ := t p m
  exact ⟨ps, e _ _ h1 (fun z => n (by rw [← z]; exact m)), h2⟩
section
variable {K : PySem.W.Frag} {TS : List Addr} {pL tp cN : Addr} {q : Str} {f : List Int} {σ : L2.St} {H : Hp} {Q : VK}
theorem count_read (hT : LamX.TabS H pL q) (hTn : Tbl TS H) (hn : pL ∉ TS) (ht : H tp = some (.tup (iv f))) (hσ : σ[13]? = some (some (.ref tp))) (hf : Pay f) (hx : ∀ x ∈ f, -1000000 ≤ x ∧ x ≤ 1000000)
    (hQ : ∀ cv H2, LamX.TabS H2 pL q → Tbl TS H2 → H2 tp = some (.tup (iv f)) → (((∃ x ∈ f, x ≠ 0) ∧ cv = .int (Yk.countAll (Yk.simp1 f))) ∨ (¬ (∃ x ∈ f, x ≠ 0) ∧ cv = .non)) → Q cv H2) :
    tLamY pL q (TTold cN) (fun E => tCallS (spCount TS cN) (WE fun cls d _ H => E cls d H) (tCons (tVar 13) tNil)) σ H Q := by
  refine ⟨hT, fun H1 hb hT1 => ?_⟩
  have hTn1 := tbl_but hTn hb hn
  have ht1 : H1 tp = some (.tup (iv f)) := hb _ _ ht fun z => by
    obtain ⟨ps, e, _⟩ := hT
    rw [← z, ht] at e
    cases e
  have fin : ∀ cv H2, Ext TS H1 H2 → (((∃ x ∈ f, x ≠ 0) ∧ cv = .int (Yk.countAll (Yk.simp1 f))) ∨ (¬ (∃ x ∈ f, x ≠ 0) ∧ cv = .non)) → Q cv H2 := fun cv H2 e h =>
    hQ cv H2 (tabS_ext hT1 e hTn1 hn) (hTn1.ext e) (e.obj hTn1 ht1 fun ps z => by cases z) h
  exact ⟨_, hσ, tp, f, rfl, ht1, hf, hx, hTn1, fun hz H2 e => fin _ _ e (.inl ⟨hz, rfl⟩), fun hz H2 e => ⟨⟨rfl, rfl⟩, fin _ _ e (.inr ⟨hz, rfl⟩)⟩⟩
theorem floor_read {n : Nat} (hT : LamX.TabS H pL q) (hTn : Tbl TS H) (hn : pL ∉ TS) (ht : H tp = some (.tup (iv f))) (hσ : σ[13]? = some (some (.ref tp))) (hσ2 : σ[14]? = some (some (.int (n : Nat)))) (hn8 : n ≤ 8) (hf : Pay f) (hx : ∀ x ∈ f, -1000000 ≤ x ∧ x ≤ 1000000)
    (hQ : ∀ fv H2, H2 tp = some (.tup (iv f)) → ((Yk.Yld f ∧ ∃ r : Int, fv = .int r ∧ 0 - ((10 ^ n : Nat) : Int) ≤ r ∧ Yk.atL (Yk.simp1 f) r ((10 ^ n : Nat) : Int) = true ∧ Yk.atL (Yk.simp1 f) (r + 1) ((10 ^ n : Nat) : Int) = false) ∨ (¬ Yk.Yld f ∧ fv = .non)) → Q fv H2) :
    tLamY pL q (TTold cN) (fun E => tCallS (spFloor TS cN) (WE fun cls d _ H => E cls d H) (tCons (tVar 13) (tCons (tVar 14) tNil))) σ H Q := by
  refine ⟨hT, fun H1 hb hT1 => ?_⟩
  have hTn1 := tbl_but hTn hb hn
  have ht1 : H1 tp = some (.tup (iv f)) := hb _ _ ht fun z => by
    obtain ⟨ps, e, _⟩ := hT
    rw [← z, ht] at e
    cases e
  have keep : ∀ H2, Ext TS H1 H2 → H2 tp = some (.tup (iv f)) := fun H2 e => e.obj hTn1 ht1 fun ps z => by cases z
  exact ⟨_, hσ, _, hσ2, tp, f, n, rfl, ht1, hf, hx, hn8, hTn1, fun hy H2 r e h1 h2 h3 => hQ _ H2 (keep H2 e) (.inl ⟨hy, r, rfl, h1, h2, h3⟩), fun hy H2 e => ⟨⟨rfl, rfl⟩, hQ _ H2 (keep H2 e) (.inr ⟨hy, rfl⟩)⟩⟩
end
end Yw
end
section
set_option maxRecDepth 100000
set_option maxHeartbeats 8000000
namespace Yw
open PySem PySem.Spec PyProof.Rows L2 HT
section
variable {P : Program} {w : World} {K : PySem.W.Frag} {mg : Str → Option Value} {base : Heap}
/-! ### law -/
theorem scLaw : FnScope ["_law_script", "_law_row", "_law_cut", "_law_k", "_law_size", "_law_count", "_law_found", "_law_unit", "_law_high", "_law_nonzero", "_law_at_zero", "_law_at_end", "_law_low", "_law_payments", "_law_places", "_law_one"] ["_law_script"] (defScope sLaw) := ⟨rfl, rfl, rfl, by decide +kernel, rfl, by decide +kernel, by decide +kernel⟩
def spLaw (K : PySem.W.Frag) (pL pP pB : Addr) : Sp := fun vs H Q _ => ∃ (a : Addr) (ns : List Int), vs = [.ref a] ∧ SqL K H a (iv ns) ∧ ns.length ≤ 1000 ∧ H pL = some (.tbl #[]) ∧ H pP = some (.tbl #[]) ∧ H pB = some (.tbl #[]) ∧ ∀ H', Q (.bl true) H'
def LP (K : PySem.W.Frag) (H : Hp) (row sc pl : Addr) (ns : List Int) (cut : Int) (i : Nat) (σ' : L2.St) (H' : Hp) : Prop :=
  ∃ (ps : List Int) (y3 y4 : Option V), σ' = [some (.ref sc), some (.ref row), some (.int cut), y3, y4, none, none, none, none, none, none, none, none, some (.ref pl), none, none] ∧ LW K H H' row sc pl ns ps ∧ ps.length = i ∧ ∀ x ∈ ps, -1000000 ≤ x ∧ x ≤ 1000000
theorem bd20 {ps : List Int} (h : ∀ x ∈ ps, -1000000 ≤ x ∧ x ≤ 1000000) : Yk.Bd 20 ps := fun x hx => by
  have := h x hx
  show x.natAbs < 1048576
  omega
theorem tif_sg {te : TE} {σ : L2.St} {H : Hp} {Q : VK} {x : Int} (h : ∀ Q' : VK, Q' (.int x) H → te σ H Q') (q : Q (.int (Yk.sg x)) H) : tIf (tTest (tOp (rI0 fun i j => .bl (decide (j < i))) te (tC (.int 0)))) (tC (.int 1)) (tUn (rU fun i => .int (-i)) (tC (.int 1))) σ H Q := by
  unfold Yk.sg at q
  refine h _ ⟨x, 0, rfl, rfl, _, rfl, ite2 (fun z => ?_) (fun z => ?_)⟩
  · rw [if_pos (of_decide_eq_true z)] at q
    exact q
  · rw [if_neg (fun e => z (decide_eq_true e))] at q
    exact ⟨1, rfl, q⟩
theorem ret_ok {σ : L2.St} {H : Hp} {Q : VK} {hi az lw ae : Int} (h8 : σ[8]? = some (some (.int hi))) (h10 : σ[10]? = some (some (.int az))) (h11 : σ[11]? = some (some (.int ae))) (h12 : σ[12]? = some (some (.int lw))) (e1 : hi = az) (e2 : lw = ae ∨ lw = 0) (q : Q (.bl true) H) :
    tAndV (tOp rEq (tVar 8) (tVar 10)) (tOrV (tOp rEq (tVar 12) (tVar 11)) (tOp rEq (tVar 12) (tC (.int 0)))) σ H Q := by
  subst e1
  refine ⟨_, h8, _, h10, rfl, _, rfl, ite2 (fun _ => ?_) (fun c => absurd (decide_eq_true rfl) c)⟩
  refine ⟨_, h12, _, h11, rfl, _, rfl, ite2 (fun _ => q) (fun c => ?_)⟩
  rcases e2 with e | e
  · exact absurd (decide_eq_true (by rw [e])) c
  · subst e
    exact ⟨_, h12, rfl, q⟩
theorem place_bits {s : List Int} {u r : Int} (hs : Yk.Bd 139988 s) (hu0 : 0 < u) (hu : u ≤ 100000000) (h0 : 0 - u ≤ r) (hh : r ≤ 2 * (u * (2 * Yk.hgt s + 1))) : ∃ T, T ≤ 200000 ∧ u.natAbs < 2 ^ T ∧ (u + r + 1).natAbs < 2 ^ T ∧ (u + r).natAbs < 2 ^ T := by
  have h1 := far_bits hs hu0 hu h0 hh
  generalize hN : 139988 + 31 = N at h1
  have h2 := sum_bits (u := u) (by omega) (by omega) h1
  have h3 : (u + r + 1).natAbs < 2 ^ (N + 1 + 1) := Yk.add_lt h2 (Nat.lt_of_lt_of_le (by decide : (1 : Int).natAbs < 2 ^ 1) (Yk.pow_le (by omega)))
  exact ⟨N + 1 + 1, by omega, Nat.lt_of_lt_of_le (by omega : u.natAbs < 2 ^ 27) (Yk.pow_le (by omega)), h3, Nat.lt_of_lt_of_le h2 (Yk.pow_le (by omega))⟩
theorem nz_snoc (l : List Int) (v : Int) : Yk.nz (l ++ [v]) = Yk.nz l ++ (if v ≠ 0 then [v] else []) := by
  unfold Yk.nz
  rw [List.filter_append]
  congr 1
  by_cases z : v ≠ 0
  · rw [if_pos z]
    simp [z]
  · rw [if_neg z]
    simp [z]
theorem nz_len (l : List Int) : (Yk.nz l).length ≤ l.length := List.length_filter_le _ _
theorem ok_law {k : Nat} {fLaw cN cL cB pB cP pP cLaw pLaw : Addr} {dLaw : FuncData} (FL : L2.Fun K "law" "law" sLaw fLaw dLaw) (hcL : dLaw.code = .ref cLaw) (TL : LamX.TabB base mg cLaw pLaw) (L : Lib K mg) (T : Txt mg) (G : Gd P base) (EX : Exs K mg cN cL)
    (hc : L.dBound.code = .ref cB) (TB : LamX.TabB base mg cB pB) (hcP : L.dNeedP.code = .ref cP) (TP : LamX.TabB base mg cP pP) (n1 : pLaw ≠ pP) (n2 : pLaw ≠ pB) : FnOk P w K mg base CX0 (k + 49) fLaw dLaw ["_law_script"] (spLaw K pLaw pP pB) := by
  have hmB : pB ∈ [pP, pB] := by simp
  have hmP : pP ∈ [pP, pB] := by simp
  have hnL : pLaw ∉ [pP, pB] := by simp [n1, n2]
  refine fun_okC FL hcL scLaw (fun vs H Q E h => ?_) (fun A outer s H vs Q E hr h => ?_)
  · obtain ⟨a, ns, rfl, _⟩ := h
    rfl
  · obtain ⟨sc, ns, rfl, hS, hns, tL, tP, tB, q⟩ := h
    have OT := ok_taken (P := P) (w := w) (base := base) (k := k + 47) L T
    have OK := ok_pick (P := P) (w := w) (base := base) (k := k + 46) L T
    have OS := ok_sign (P := P) (w := w) (base := base) (k := k + 47) L T
    have OC := ok_count (P := P) (w := w) (base := base) (k := k + 1) (TS := [pP, pB]) L T G EX hc TB hmB hcP TP hmP
    have OF := ok_floor (P := P) (w := w) (base := base) (k := k) (TS := [pP, pB]) L T G EX hc TB hmB hcP TP hmP
    obtain ⟨oc, od, kV, doc, pm, an, cdv, ct, osl, hfd, lk, hcd⟩ := L.told.F.ex
    have bT := L.told.b
    rw [hfd] at bT lk
    refine ⟨_, L2.PSs.nox (pss_cons (ps_set (i := 1) scLaw.nd rfl (.inl rfl) (pe_lst (pa_cons (pv 0) (pa_cons pe_int (pa_cons pe_int (pa_cons pe_int pa_nil))))))
      (pss_cons (ps_asg (pe_tup (pa_cons (pe_op op_add pe_int (pe_call OT hr (by rfl) L.taken.m L.taken.F.kp L.taken.b .nil pass0 (pa_cons (pv 1) (pa_cons pe_int pa_nil)))) (pa_cons (pe_lst pa_nil) pa_nil))) (pg_tup rfl (pgs_cons (pg_name (i := 2) scLaw.nd rfl (.inl rfl)) (pgs_cons (pg_name (i := 13) scLaw.nd rfl (.inr rfl)) pgs_nil))))
      (pss_cons (ps_for PassesOwn.never rfl (pi_range1 (by rfl) T.range (pa_cons (pe_op op_add (pe_op op_add (pv 2) pe_int) (pe_call OT hr (by rfl) L.taken.m L.taken.F.kp L.taken.b .nil pass0 (pa_cons (pv 1) (pa_cons pe_int pa_nil)))) pa_nil)) (pg_name (i := 3) scLaw.nd rfl (.inl rfl))
        (pss_cons (ps_set (i := 4) scLaw.nd rfl (.inl rfl) (pe_call OK hr (by rfl) L.pick.m L.pick.F.kp L.pick.b .nil pass0 (pa_cons (pv 1) (pa_cons (pe_lst (pa_cons pe_int (pa_cons pe_int (pa_cons pe_int (pa_cons pe_int (pa_cons (pe_op op_add pe_int (pe_call OT hr (by rfl) L.taken.m L.taken.F.kp L.taken.b .nil pass0 (pa_cons (pv 1) (pa_cons pe_int pa_nil)))) pa_nil)))))) pa_nil))))
        (pss_one (ps_expr (pe_bm PySem.F.plainAttrs_list PySem.F.slot_list_append PySem.F.type_list_append mt_append (pv 13) (pa_cons (pe_ifExp (pt_cmpR op_lt (pv 3) (pv 2) (nomark _)) (pe_op op_sub pe_int (pv 4)) (pv 4)) pa_nil))))))
      (pss_cons (ps_if (pt_cmpR op_eq (pe_call OT hr (by rfl) L.taken.m L.taken.F.kp L.taken.b .nil pass0 (pa_cons (pv 1) (pa_cons pe_int pa_nil))) pe_int (nomark _))
        (pss_one (ps_asg (pe_call OK hr (by rfl) L.pick.m L.pick.F.kp L.pick.b .nil pass0 (pa_cons (pv 1) (pa_cons (pe_lst (pa_cons (pe_un un_neg pe_int) (pa_cons pe_int (pa_cons pe_int pa_nil)))) pa_nil)))
          (pg_sub (pv 13) (pe_call OT hr (by rfl) L.taken.m L.taken.F.kp L.taken.b .nil pass0 (pa_cons (pv 1) (pa_cons (pe_callB call_len_seq (by rfl) T.len boot_len (pa_cons (pv 13) pa_nil)) pa_nil))) set_list))) pss_nil)
      (pss_cons (ps_set (i := 13) scLaw.nd rfl (.inr rfl) (pe_callTy call_tuple_of (by rfl) T.tuple boot_tuple (pa_cons (pv 13) pa_nil)))
      (pss_cons (ps_set (i := 14) scLaw.nd rfl (.inr rfl) (pe_call OT hr (by rfl) L.taken.m L.taken.F.kp L.taken.b .nil pass0 (pa_cons (pv 1) (pa_cons pe_int pa_nil))))
      (pss_cons (ps_set (i := 5) scLaw.nd rfl (.inl rfl) (pe_lamY (k := k + 46) (t := fun E => tCallS (spCount [pP, pB] cN) (WE fun cls d _ H => E cls d H) (tCons (tVar 13) tNil)) (by rfl) L.told.m L.told.F.kp lk hcd bT scTold rfl (.inl rfl) (told_gives EX T) TL rfl hr (LamX.lamS_by (by show LamX.lamSB (defScope sLaw) _ = true; decide +kernel)) rfl (fun _ _ _ _ _ => rfl)
        (fun A outer s H E f c' hr' => pe_callS OC hr' (by rfl) L.count.m L.count.F.kp L.count.b (fun σ => passAt (takes_of rfl rfl rfl rfl) σ) (pa_cons (pv 13) pa_nil))))
      (pss_cons (ps_set (i := 6) scLaw.nd rfl (.inl rfl) (pe_lamY (k := k + 46) (t := fun E => tCallS (spFloor [pP, pB] cN) (WE fun cls d _ H => E cls d H) (tCons (tVar 13) (tCons (tVar 14) tNil))) (by rfl) L.told.m L.told.F.kp lk hcd bT scTold rfl (.inl rfl) (told_gives EX T) TL rfl hr (LamX.lamS_by (by show LamX.lamSB (defScope sLaw) _ = true; decide +kernel)) rfl (fun _ _ _ _ _ => rfl)
        (fun A outer s H E f c' hr' => pe_callS OF hr' (by rfl) L.floor.m L.floor.F.kp L.floor.b (fun σ => passAt (takes_of rfl rfl rfl rfl) σ) (pa_cons (pv 13) (pa_cons (pv 14) pa_nil)))))
      (pss_cons (ps_if (pt_cmpR op_ne (pv 5) pe_int (nomark _)) (pss_one (ps_ret (pe_cmpR op_isN (pv 6) pe_non (nomark _)))) pss_nil)
      (pss_cons (ps_set (i := 7) scLaw.nd rfl (.inl rfl) (pe_callTy call_int_str (by rfl) T.int boot_int (pa_cons (pe_op op_add_str pe_str (pe_op op_mulS pe_str (pv 14))) pa_nil)))
      (pss_cons (ps_if (pw_or (pt_not (pt_val (pe_callB call_isi (by rfl) T.isinstance boot_isinstance (pa_cons (pv 6) (pa_cons (pe_bltn (by rfl) T.int boot_int (v := .ty "int") rfl) pa_nil)))))
          (pw_or (pt_val (pe_callB call_isi (by rfl) T.isinstance boot_isinstance (pa_cons (pv 6) (pa_cons (pe_bltn (by rfl) T.bool boot_bool (v := .ty "bool") rfl) pa_nil)))) (pw_or1 (pt_cmpR op_lt (pv 6) (pe_op op_sub pe_int (pv 7)) (nomark _))))).pt (pss_one ps_never) pss_nil)
      (pss_cons (ps_set (i := 8) scLaw.nd rfl (.inl rfl) (pe_call OS hr (by rfl) L.sign.m L.sign.F.kp L.sign.b .nil pass0 (pa_cons (pv 13) (pa_cons (pv 7) (pa_cons (pe_op op_add (pe_op op_add (pv 7) (pv 6)) pe_int) pa_nil)))))
      (pss_cons (ps_setLc (i := 9) (own := [("_law_one", 15)]) (g := gName 15) (tt := tTest (tOp rNe (tVar 15) (tC (.int 0)))) (te := tVar 15) rfl scLaw.nd rfl rfl (sw_true rfl rfl rfl (by decide +kernel)) (pi_tup (pv 13))
          (blkOk_by (N := ["_law_script", "_law_row", "_law_cut", "_law_k", "_law_size", "_law_count", "_law_found", "_law_unit", "_law_high", "_law_nonzero", "_law_at_zero", "_law_at_end", "_law_low", "_law_payments", "_law_places", "_law_one"]) (sc := defScope sLaw) (by decide +kernel))
          (fun _ _ _ _ _ => pg_name (i := 15) scLaw.nd rfl (Or.inl rfl)) (fun _ _ _ _ _ => pts_one (pt_cmpR op_ne (pv 15) pe_int (nomark _))) (fun _ _ _ _ _ => pv 15))
      (pss_cons (ps_par (i := 10) (j := 11) rfl scLaw.nd rfl rfl (by decide) rfl rfl (pa_cons (pe_ifExp (pt_cmpR op_gt (pe_ix ix_list (pv 9) pe_int (fun _ _ => rfl)) pe_int (nomark _)) pe_int (pe_un un_neg pe_int))
          (pa_cons (pe_ifExp (pt_cmpR op_gt (pe_ix ix_list (pv 9) (pe_un un_neg pe_int) (fun _ _ => rfl)) pe_int (nomark _)) pe_int (pe_un un_neg pe_int)) pa_nil)) rfl)
      (pss_cons (ps_if (pt_cmpR op_eq (pv 10) (pv 11) (nomark _)) (pss_one (ps_ret pe_bl)) pss_nil)
      (pss_cons (ps_set (i := 12) scLaw.nd rfl (.inl rfl) (pe_ifExp (pt_cmpR op_eq (pv 6) (pe_op op_sub pe_int (pv 7)) (nomark _)) (pv 11) (pe_call OS hr (by rfl) L.sign.m L.sign.F.kp L.sign.b .nil pass0 (pa_cons (pv 13) (pa_cons (pv 7) (pa_cons (pe_op op_add (pv 7) (pv 6)) pa_nil))))))
      (pss_one (ps_ret (pe_and (pe_cmpR op_eq (pv 8) (pv 10) (nomark _)) (pe_one (pe_or (pe_cmpR op_eq (pv 12) (pv 11) (nomark _)) (pe_one (pe_cmpR op_eq (pv 12) pe_int (nomark _)))))))))))))))))))))))), ?_⟩
    refine ⟨_, rfl, Nat.le_of_lt (small1000 (n := 4) (by decide)), fun row nrow => ?_⟩
    have eR1 : (upd H row (.lst [.ref sc, .int 0, .int 3406, .int 0])) row = some (.lst [.ref sc, .int 0, .int 3406, .int 0]) := upd_same
    have R1 : Row K (upd H row (.lst [.ref sc, .int 0, .int 3406, .int 0])) row sc ns := ⟨(sameU nrow).seq hS, hns, 0, 3406, 0, eR1, by decide, by decide, by decide⟩
    refine ⟨_, rfl, row, sc, ns, 3, rfl, R1, by decide, by decide, fun r H2 r0 r1 hto => ⟨_, _, rfl, rfl, Nat.zero_le _, fun pl npl => ⟨Nat.le_of_lt (small1000 (n := 2) (by decide)), fun t nt => ⟨t, _, rfl, SqT.of upd_same, rfl, _, _, rfl, _, _, rfl, rfl, ?_⟩⟩⟩⟩
    have wz : L0 K H row sc pl ns ∧ LW K H (upd (upd H2 pl (.lst [])) t (.tup [.int (1 + r), .ref pl])) row sc pl ns [] := by
      obtain ⟨i, s', l, rfl, hi, hs⟩ := hto
      have hne : pl ≠ row := fun e => by
        rw [e, upd_same] at npl
        cases npl
      have hpl : H pl = none := by
        rw [upd_ne hne, upd_ne hne] at npl
        exact npl
      have z : L0 K H row sc pl ns := ⟨hS, nrow, hpl, fun e => hne e.symm⟩
      refine ⟨z, LW.same ⟨?_, ⟨?_, hns, i, s', l, ?_, hi, hs⟩, ?_⟩ (sameU nt)⟩
      · exact ((NL.of (sameU nrow)).trans (NL.upd eR1)).trans (NL.of (sameU npl))
      · exact sql_new hS (sql_new hS R1.1 nrow) hpl
      · rw [upd_ne (fun e => hne e.symm), upd_same]
      · exact upd_same
    obtain ⟨z, w0⟩ := wz
    generalize (upd (upd H2 pl (.lst [])) t (.tup [.int (1 + r), .ref pl])) = H4 at w0
    clear hto npl nt R1 eR1
    -- the payments
    refine ⟨_, rfl, _, 1, rfl, rfl, _, rfl, row, sc, ns, 5, rfl, w0.row, by decide, by decide, fun r2 H5 g0 g1 hto2 => ⟨_, _, rfl, rfl, _, rfl, by omega, by omega, ?_⟩⟩
    have w5 := w0.to z hto2
    generalize hN : (1 + r + 1 + r2).toNat = N0
    have hN2 : 2 ≤ N0 ∧ N0 ≤ 8 := by omega
    refine for_y (P := fun _ => True) (yl_range 0 N0) (LP K H row sc pl ns (1 + r)) ⟨[], none, none, rfl, w5, rfl, fun x hx => by cases hx⟩ (fun _ _ _ _ => trivial) ?_ ?_
    · rintro i x σ' H6 H7 hi ⟨ps, y3, y4, rfl, w6, hpl, hpx⟩ s67 rfl
      have w7 := w6.same s67
      refine ⟨_, rfl, _, rfl, row, sc, ns, 500, rfl, w7.row, by decide, by decide, fun r3 H8 c0 c1 hto3 => ⟨_, _, rfl, rfl, Nat.le_of_lt (small1000 (n := 5) (by decide)), fun th nth => ?_⟩⟩
      have w8 := (w7.to z hto3).same (sameU (o := .lst (iv [0, 1, 100, 1000000, 1 + r3])) nth)
      refine ⟨row, sc, th, ns, [0, 1, 100, 1000000, 1 + r3], rfl, w8.row, SqL.of upd_same, by simp, by simp, fun v H9 hv hto4 => ?_⟩
      have w9 := w8.to z hto4
      have hv0 : 0 ≤ v ∧ v ≤ 1000000 := by
        simp at hv
        omega
      have app : ∀ y : Int, -1000000 ≤ y ∧ y ≤ 1000000 → ∃ l xs y', V.ref pl = .ref l ∧ [V.int y] = [y'] ∧ H9 l = some (.lst xs) ∧ xs.length < sizeLine ∧ LP K H row sc pl ns (1 + r) (i + 1) [some (.ref sc), some (.ref row), some (.int (1 + r)), some (.int (0 + (i : Nat))), some (.int v), none, none, none, none, none, none, none, none, some (.ref pl), none, none] (upd H9 l (.lst (xs ++ [y']))) := fun y hy => by
        refine ⟨pl, _, _, rfl, rfl, w9.pay, small1000 (by rw [iv_len]; omega), ps ++ [y], _, _, rfl, ?_, by rw [List.length_append, hpl]; rfl, fun x hx => ?_⟩
        · rw [← iv_snoc]
          exact w9.set z _
        · rcases List.mem_append.mp hx with c | c
          · exact hpx x c
          · rw [List.mem_singleton.mp c]
            exact hy
      refine ⟨_, rfl, .inl ⟨rfl, _, SqL.of w9.pay⟩, _, rfl, _, rfl, _, _, rfl, rfl, _, rfl, ite2 (fun c => ?_) (fun c => ?_)⟩
      · exact ⟨_, rfl, _, _, rfl, rfl, app _ (by omega)⟩
      · exact ⟨_, rfl, app _ (by omega)⟩
    rintro σ' H6 ⟨ps, y3, y4, rfl, w6, hpl, hpx⟩
    -- one of them may be another
    refine ⟨_, rfl, row, sc, ns, 4, rfl, w6.row, by decide, by decide, fun r4 H7 c0 c1 hto3 => ⟨rfl, _, rfl, if_mid (LP K H row sc pl ns (1 + r) N0) (fun _ D' hD' => ?_) (fun _ => ⟨ps, y3, y4, rfl, w6.to z hto3, hpl, hpx⟩) ?_⟩⟩
    · have w7 := w6.to z hto3
      refine ⟨_, rfl, 50, rfl, Nat.le_of_lt (small1000 (n := 3) (by decide)), fun th nth => ?_⟩
      have w8 := w7.same (sameU (o := .lst (iv [-50, 0, 200])) nth)
      refine ⟨row, sc, th, ns, [-50, 0, 200], rfl, w8.row, SqL.of upd_same, by simp, by simp, fun v H9 hv hto4 => ?_⟩
      have w9 := w8.to z hto4
      have hv0 : -1000000 ≤ v ∧ v ≤ 1000000 := by
        simp at hv
        omega
      refine ⟨_, rfl, _, rfl, _, rfl, pl, iv ps, rfl, .inl (SqL.of w9.pay), row, sc, ns, _, rfl, w9.row, by rw [iv_len]; omega, by rw [iv_len]; omega, fun r5 H10 d0 d1 hto5 => ?_⟩
      rw [iv_len] at d1
      have w10 := w9.to z hto5
      refine ⟨pl, iv ps, r5, r5.toNat, rfl, rfl, w10.pay, ixN_int (by omega) (by rw [iv_len]; omega), hD' _ _ ⟨ps.set r5.toNat v, y3, y4, rfl, ?_, by rw [List.length_set]; exact hpl, fun x hx => ?_⟩⟩
      · have := w10.set z (ps.set r5.toNat v)
        rw [show iv (ps.set r5.toNat v) = (iv ps).set r5.toNat (.int v) from List.map_set] at this
        exact this
      · rcases List.mem_or_eq_of_mem_set hx with c | c
        · exact hpx x c
        · rw [c]
          exact hv0
    clear w6 hpl hpx hto3 ps y3 y4
    rintro σ' H7 ⟨f, y3, y4, rfl, w7, hfl, hfx⟩
    -- the tuple
    refine ⟨_, rfl, pl, iv f, rfl, .inl ⟨SqL.of w7.pay, fun tp ntp => ?_⟩⟩
    have w8 := w7.same (sameU (o := .tup (iv f)) ntp)
    have e8 : (upd H7 tp (.tup (iv f))) tp = some (.tup (iv f)) := upd_same
    refine ⟨_, rfl, row, sc, ns, 9, rfl, w8.row, by decide, by decide, fun n9 H9 d0 d1 hto4 => ?_⟩
    have w9 := w8.to z hto4
    have e9 : H9 tp = some (.tup (iv f)) := by
      obtain ⟨_, _, i8, s8, l8, er8, _⟩ := id w8.row
      obtain ⟨_, _, _, rfl, _⟩ := hto4
      rw [upd_ne (ne_of e8 er8 (by intro q; cases q))]
      exact e8
    obtain ⟨n, rfl⟩ : ∃ n : Nat, n9 = (n : Nat) := ⟨n9.toNat, by omega⟩
    have hn8 : n ≤ 8 := by omega
    have hf : Pay f := ⟨by omega, bd20 hfx⟩
    have tabs : ∀ q, LamX.TabS H9 pLaw q := fun q => tabS_nl (LamX.TabS.nil tL) w9.nl
    have tbl : Tbl [pP, pB] H9 := tbl_nl (TS := [pP, pB]) (H := H) (fun P hP => by
      rcases List.mem_cons.mp hP with e | hP
      · rw [e]
        exact ⟨_, tP, trivial⟩
      · rw [List.mem_singleton.mp hP]
        exact ⟨_, tB, trivial⟩) w9.nl
    refine count_read (tabs _) tbl hnL e9 rfl hf hfx fun cv H10 hT10 tbl10 e10 hcv => ?_
    refine floor_read (n := n) hT10 tbl10 hnL e10 rfl rfl hn8 hf hfx fun fv H11 e11 hfv => ?_
    clear hT10 tbl10 e10 tabs tbl e9 w9 hto4 d0 d1 e8 w8 w7
    rcases hfv with ⟨hy, r', rfl, b1, b2, b3⟩ | ⟨hy, rfl⟩
    · have hcv : cv = .int 1 := by
        rcases hcv with ⟨_, e⟩ | ⟨hn, _⟩
        · rw [e, hy.2]
        · exact absurd hy.1 hn
      subst hcv
      refine ⟨_, rfl, rfl, _, rfl, ite2 (fun c => absurd c (by decide)) (fun _ => ?_)⟩
      obtain ⟨u1, u2, u3, u4⟩ := unit_text n hn8
      refine ⟨_, rfl, _, _, rfl, rfl, u1, _, _, rfl, rfl, u2, _, _, rfl, u3, u4, ?_⟩
      have hu0 : (0 : Int) < ((10 ^ n : Nat) : Int) := by
        have : 0 < 10 ^ n := Nat.pow_pos (by decide)
        omega
      have hu8 : ((10 ^ n : Nat) : Int) ≤ 100000000 := by
        have : (10 : Nat) ^ n ≤ 10 ^ 8 := Nat.pow_le_pow_right (by decide) hn8
        omega
      clear u1 u2 u3 u4
      generalize ((10 ^ n : Nat) : Int) = u at *
      have hs := hf.sok hy.1
      have S := Yk.simple_of hy.1 hy.2
      have hsg := Yk.law_signs hy.1 hy.2 hu0 b1 b2 b3
      have hfar : r' < u * (2 * Yk.hgt (Yk.simp1 f) + 1) := Int.not_le.mp fun c => by
        rw [Yk.atL_far S hu0 c] at b2
        cases b2
      have hpos : 0 ≤ u * (2 * Yk.hgt (Yk.simp1 f) + 1) := Int.mul_nonneg (by omega) (by have := Yk.hgt_nn (Yk.simp1 f); omega)
      obtain ⟨B, hB, hb1, hb2, hb3⟩ := place_bits hs.2.2 hu0 hu8 b1 (by omega)
      have m1 : (f.length + 1) * (B + 1) ≤ 9 * (B + 1) := Nat.mul_le_mul_right _ (by omega)
      refine ⟨_, rfl, .int r', .ty "int", .type "int", .type "int", true, rfl, .ty _, .base (.int r'), kit_ty (by decide +kernel), true, rfl, iteF ?_⟩
      refine ⟨_, rfl, .int r', .ty "bool", .type "int", .type "bool", false, rfl, .ty _, .base (.int r'), kit_ty (by decide +kernel), false, rfl, iteF ?_⟩
      refine ⟨_, rfl, _, rfl, _, _, rfl, rfl, _, _, rfl, rfl, _, rfl, ite2 (fun c => ?_) (fun _ => ?_)⟩
      · have c2 : r' < 0 - u := of_decide_eq_true c
        omega
      refine ⟨_, rfl, _, rfl, _, rfl, _, rfl, _, _, rfl, rfl, _, 1, rfl, rfl, tp, f, u, u + r' + 1, 20, B, rfl, SqT.of e11, hb1, hb2, hf.bd, by omega, by omega, fun H12 s12 => ?_⟩
      have e12 := s12 _ _ e11
      -- the signs at both ends
      obtain ⟨a0, m0, est⟩ := Yk.strip_some hy.1
      obtain ⟨t1, ez1⟩ := Yk.nz_head est
      obtain ⟨t2, ez2⟩ := Yk.nz_last f.length f (Nat.le_refl _) hy.1
      have hhi := hsg.1 a0 m0 est
      have hlo := hsg.2
      generalize Yk.lead (Yk.trim f) = b0 at *
      refine ⟨_, rfl, tp, rfl, ⟨_, SqT.of e12⟩, fun D hD => lc_y hD (yl_tup fun H' s' => SqT.of (s' _ _ e12)) (fun i => iv (Yk.nz (f.take i))) rfl ?_ ?_⟩
      · intro i v H3 H4 hi n3 s34 hv n4
        obtain ⟨x, hx, rfl⟩ := iv_at hv
        have ek : Yk.nz (f.take (i + 1)) = Yk.nz (f.take i) ++ (if x ≠ 0 then [x] else []) := by
          rw [List.take_add_one, hx]
          exact nz_snoc _ _
        refine ⟨rfl, _, rfl, rfl, _, rfl, ite2 (fun c => ?_) (fun c => ?_)⟩
        · have c : x ≠ 0 := fun e => by
            have c2 : (!decide (V.int x = V.int 0)) = true := c
            rw [e] at c2
            exact absurd c2 (by decide)
          rw [if_pos c] at ek
          refine ⟨_, rfl, ny_app hD n4 (small1000 ?_) (by rw [ek, iv_snoc])⟩
          rw [iv_len]
          refine Nat.le_trans (nz_len _) ?_
          rw [List.length_take]
          omega
        · have c : ¬ x ≠ 0 := fun e => c (by
            show (!decide (V.int x = V.int 0)) = true
            rw [decide_eq_false (fun e2 => e (V.int.inj e2))]
            rfl)
          rw [if_neg c, List.append_nil] at ek
          show Ny H12 D (iv (Yk.nz (f.take (i + 1)))) H4
          rw [ek]
          exact n4
      intro H13 n13
      rw [iv_len, List.take_length] at n13
      have e13 := n13.1 _ _ e12
      have at0 : atI (iv (Yk.nz f)) 0 = some (.int a0) := by
        rw [ez1]
        exact atI_nat (j := 0) rfl
      have at1 : atI (iv (Yk.nz f)) (-1) = some (.int b0) := by
        rw [ez2, iv_snoc]
        exact atI_last _ _
      refine tif_sg (te := tOp (rIxL K) (tVar 9) (tC (.int 0))) (x := a0) (fun Q' h' => ⟨_, rfl, D, _, 0, _, rfl, rfl, SqL.of n13.2, at0, h'⟩) ?_
      refine tif_sg (te := tOp (rIxL K) (tVar 9) (tUn (rU fun i => .int (-i)) (tC (.int 1)))) (x := b0) (fun Q' h' => ⟨_, rfl, 1, rfl, D, _, -1, _, rfl, rfl, SqL.of n13.2, at1, h'⟩) ?_
      refine ⟨_, _, rfl, ?_⟩
      refine ⟨_, rfl, _, rfl, rfl, _, rfl, ite2 (fun _ => q _) (fun _ => ?_)⟩
      refine ⟨_, rfl, _, rfl, _, _, rfl, rfl, rfl, _, rfl, ite2 (fun c => ?_) (fun c => ?_)⟩
      · exact ⟨_, rfl, ret_ok rfl rfl rfl rfl hhi (.inl rfl) (q _)⟩
      · have c : r' ≠ 0 - u := fun e => c (decide_eq_true (by rw [e]))
        refine ⟨_, rfl, _, rfl, _, rfl, _, rfl, _, _, rfl, rfl, tp, f, u, u + r', 20, B, rfl, SqT.of e13, hb1, hb3, hf.bd, by omega, by omega, fun H14 s14 => ?_⟩
        exact ret_ok rfl rfl rfl rfl hhi (hlo c) (q _)
    · have hcv : scal cv (.int 1) = true ∧ cv ≠ .int 1 := by
        rcases hcv with ⟨hn, e⟩ | ⟨hn, e⟩
        · rw [e]
          exact ⟨rfl, fun c => hy ⟨hn, V.int.inj c⟩⟩
        · rw [e]
          exact ⟨rfl, fun c => by cases c⟩
      refine ⟨_, rfl, hcv.1, _, rfl, ite2 (fun _ => ?_) (fun c => ?_)⟩
      · exact ⟨_, rfl, rfl, q _⟩
      · refine absurd ?_ c
        show (!decide (cv = V.int 1)) = true
        rw [decide_eq_false hcv.2]
        rfl
end
end Yw
end
section
set_option maxRecDepth 100000
set_option maxHeartbeats 4000000
namespace Yw
open PySem PySem.Spec PyProof.Rows L2 HT
/-! ### the end: what the top has left, and the call of the law -/
/-- the code object at c has the table p -/
def CodeAt (K : PySem.W.Frag) (c p : Addr) : Prop := (∃ (e : Value) (dd : Option Addr) (vs : Array Value) (sl : Array (Option Value)), K.lookup c = some ⟨e, dd, .fields vs, sl⟩ ∧ vs[11]? = some (.ref p)) ∧ PySem.W.codeHdIn K c p = true ∧ K.lookup p = none
/-- all that is to be known of the heap behind the top -/
def Facts (K : PySem.W.Frag) (mg : Str → Option Value) (fa : Addr) : Prop :=
  ∃ (L : Lib K mg) (dLaw : FuncData) (cLaw pLaw cB pB cP pP cN cL : Addr), L2.Fun K "law" "law" sLaw fa dLaw ∧ (∀ (s : Shared) (v : Value), BindsTo s dLaw ⟨[v], []⟩ [("_law_script", v)]) ∧ dLaw.code = .ref cLaw ∧ L.dBound.code = .ref cB ∧ L.dNeedP.code = .ref cP ∧ Txt mg ∧ Exs K mg cN cL ∧ CodeAt K cLaw pLaw ∧ CodeAt K cB pB ∧ CodeAt K cP pP ∧ pLaw ≠ pP ∧ pLaw ≠ pB
theorem env0_sub {P : Program} {w : World} {K K' : PySem.W.Frag} {mg : Str → Option Value} {base : Heap} {A : Around} {outer : List Env} {s : Shared} {H : Hp} (h : ∀ a o, K.lookup a = some o → K'.lookup a = some o) (e : Env0 P w K' mg base A outer s H) : Env0 P w K mg base A outer s H :=
  ⟨e.frames, ⟨fun a o q => e.mod.kin a o (h a o q), e.mod.glob, e.mod.blt, e.mod.nolimit⟩, e.bs, e.bsz, e.funs, e.frf, e.hok, e.bare⟩
theorem fnOk_sub {P : Program} {w : World} {K K' : PySem.W.Frag} {mg : Str → Option Value} {base : Heap} {CX : CXT} {k : Nat} {f : Addr} {fd : FuncData} {ps : List Str} {sp : Sp} (h : ∀ a o, K.lookup a = some o → K'.lookup a = some o) (F : FnOk P w K mg base CX k f fd ps sp) : FnOk P w K' mg base CX k f fd ps sp :=
  ⟨F.len, fun A outer s H args us vs Q E hr he hb hv hs => F.run A outer s H args us vs Q E hr (env0_sub h he) hb hv hs⟩
theorem look_mem : ∀ {E : PySem.W.Frag} {a : Addr} {o : Obj}, List.lookup a E = some o → (a, o) ∈ E
  | [], a, o, h => by cases h
  | (b, u) :: E, a, o, h => by
    rw [List.lookup_cons] at h
    cases c : (a == b) with
    | true =>
      rw [c] at h
      rw [beq_iff_eq.mp c, ← Option.some.inj h]
      exact List.mem_cons_self
    | false =>
      rw [c] at h
      exact List.mem_cons_of_mem _ (look_mem h)
theorem mem_look : ∀ {E : PySem.W.Frag} {a : Addr} {o : Obj}, (a, o) ∈ E → ∃ u, List.lookup a E = some u
  | [], a, o, h => by cases h
  | (b, u) :: E, a, o, h => by
    rw [List.lookup_cons]
    cases c : (a == b) with
    | true => exact ⟨u, rfl⟩
    | false =>
      rcases List.mem_cons.mp h with e | e
      · cases e
        rw [beq_self_eq_true] at c
        cases c
      · exact mem_look e
theorem lookup_app {K E : PySem.W.Frag} {a : Addr} {o : Obj} (h : List.lookup a (K ++ E) = some o) : K.lookup a = some o ∨ (a, o) ∈ E := by
  rw [List.lookup_append] at h
  cases e : List.lookup a K with
  | none =>
    rw [e] at h
    exact .inr (look_mem h)
  | some u =>
    rw [e] at h
    exact .inl h
theorem lookup_l {K E : PySem.W.Frag} {a : Addr} {o : Obj} (h : K.lookup a = some o) : List.lookup a (K ++ E) = some o := by
  rw [List.lookup_append, show List.lookup a K = some o from h]
  rfl
/-- an object of the heap that stands among the added ones is known in every heap that has them -/
theorem there_of {K E : PySem.W.Frag} {h base : Heap} (X : PySem.W.Frag.In (K ++ E) h) (Y : PySem.W.Frag.In (K ++ E) base) {a : Addr} {o : Obj} (m : (a, o) ∈ E) (e : h.get? a = some o) : base.get? a = some o := by
  have : ∃ u, List.lookup a (K ++ E) = some u := by
    rw [List.lookup_append]
    cases q : List.lookup a K with
    | some u => exact ⟨u, rfl⟩
    | none =>
      obtain ⟨u, hu⟩ := mem_look m
      exact ⟨u, hu⟩
  obtain ⟨u, hu⟩ := this
  have h1 := X a u hu
  rw [e] at h1
  cases h1
  exact Y a o hu
theorem own_tab {q : Program} {loose : List Str} {XP : (Str → Option Value) → Heap → Prop} {w : World} {s0 : Shared} {mg mb : Str → Option Value} {h : Heap} {R : PySem.W.WRecords} {K : PySem.W.Frag} {x : Str} {f c p : Addr} {fd : FuncData} {oc : Value} {od : Option Addr} {osl : Array (Option Value)} (G : PySem.W.Ground q loose R XP w s0 mg mb h) (KX : K.In h)
    (hrec : ((recsOf q).any fun e => e.name == x) = true) (hm : mg x = some (.ref f)) (lk : K.lookup f = some ⟨oc, od, .func fd, osl⟩) (hc : fd.code = .ref c) (C : CodeAt K c p) : h.get? p = some { cls := .none, data := .fields #[] } := by
  obtain ⟨⟨e, dd, vs, sl, k4, k5⟩, _, _⟩ := C
  obtain ⟨dL, hd, hn1⟩ := List.any_eq_true.mp hrec
  have hn2 : dL.name = x := beq_iff_eq.mp hn1
  obtain ⟨a', o', fd', c', P', h1, h2, h3, h4, h5, h6⟩ := G.T.tab dL hd
  rw [hn2, hm] at h1
  cases h1
  have g1 := KX _ _ lk
  rw [g1] at h2
  cases h2
  cases h3
  rw [hc] at h4
  cases h4
  obtain ⟨⟨o2, v2, e1, _, e3, e4⟩, hP⟩ := h6
  have g2 := KX _ _ k4
  rw [g2] at e1
  cases e1
  cases e3
  rw [k5] at e4
  cases e4
  exact hP
theorem data_dict {o : Obj} {es : Array DictEntry} {ep : Nat} (h : o.data = .dict es ep) : (∀ vs n, o.data ≠ .seq vs n) ∧ ∀ vs, o.data ≠ .fields vs := by
  rw [h]
  refine ⟨fun vs n z => ?_, fun vs z => ?_⟩
  · cases z
  · cases z
theorem data_plain {o : Obj} (h : o.data = .plain) : (∀ vs n, o.data ≠ .seq vs n) ∧ ∀ vs, o.data ≠ .fields vs := by
  rw [h]
  refine ⟨fun vs n z => ?_, fun vs z => ?_⟩
  · cases z
  · cases z
theorem walk_own {l : PySem.W.OpenLaw} {q : Program} {loose : List Str} {XP : (Str → Option Value) → Heap → Prop} {YP : World → Heap → Prop} {d : DefRec} {K : Params → PySem.W.Frag} (hn : l.most = some 63) (hdf : d.params.defaults = []) (hname : d.name = ("law" : Str))
    (r1 : ((recsOf q).any fun e => e.name == ("law" : Str)) = true) (r2 : ((recsOf q).any fun e => e.name == ("need_payments" : Str)) = true) (r3 : ((recsOf q).any fun e => e.name == ("bound_of" : Str)) = true) (hi : importsNone q = true) (htree : l.prog.given.tree = none)
    (hY : ∀ (w : World) (h : Heap), YP w h → (K w.params).In h) (F : ∀ (w : World) (mg : Str → Option Value) (fa : Addr) (h : Heap), YP w h → (K w.params).In h → h.Ns mainGlobals mg → mg d.name = some (.ref fa) → Facts (K w.params) mg fa) :
    PySem.W.WalkO q loose XP YP l.row.toRowW d [] (fun f vs => PySem.call f vs) := by
  refine Att.attach_callB hn hdf fun w s0 s1 mg mb fa o pm cd doc a vs ns G Y ho hd hcd hmg hobj hints hlen hbits hg => ?_
  have KX := hY w _ Y
  obtain ⟨L, dLaw, cLaw, pLaw, cB, pB, cP, pP, cN, cL, FL, hbind, hcL, hcB, hcP, T, EX, CL, CB, CP, n1, n2⟩ := F w mg fa _ Y KX G.T.g hmg
  rw [hname] at hmg
  generalize K w.params = K at *
  -- the tables are empty
  have tL : s1.heap.get? pLaw = some { cls := .none, data := .fields #[] } := by
    obtain ⟨oc, od, kV, doc, pm, an, cdv, ct, osl, e, lk, hcd⟩ := FL.ex
    exact own_tab G KX r1 hmg lk hcL CL
  have tP : s1.heap.get? pP = some { cls := .none, data := .fields #[] } := by
    obtain ⟨oc, od, kV, doc, pm, an, cdv, ct, osl, e, lk, hcd⟩ := L.needP.F.ex
    exact own_tab G KX r2 L.needP.m lk hcP CP
  have tB : s1.heap.get? pB = some { cls := .none, data := .fields #[] } := by
    obtain ⟨oc, od, kV, doc, pm, an, cdv, ct, osl, e, lk, hcd⟩ := L.bound.F.ex
    exact own_tab G KX r3 L.bound.m lk hcB CB
  -- the objects that no division asks for
  obtain ⟨⟨mc, ⟨o1, es1, ep1, g1, d1, k1⟩, c1, c2⟩, ⟨mm, ⟨o2, es2, ep2, g2, d2, k2⟩, c3⟩, _, _⟩ := G.T.seer hi
  obtain ⟨o3, es3, ep3, g3, d3, k3⟩ := id G.T.b
  obtain ⟨o4, es4, ep4, g4, d4, k4⟩ := id G.T.g
  obtain ⟨bm, ob, x1, x2, x3, x4, x5, x6⟩ := id G.T.bmain
  generalize hE : ([(cStatics, o1), (sysModules, o2), (builtinsNs, o3), (mainGlobals, o4), (bm, ob)] : PySem.W.Frag) = E
  have eA : ∀ b u, (b, u) ∈ E → s1.heap.get? b = some u ∧ (∀ vs n, u.data ≠ .seq vs n) ∧ ∀ vs, u.data ≠ .fields vs := by
    intro b u m
    rw [← hE] at m
    simp only [List.mem_cons, List.not_mem_nil, or_false, Prod.mk.injEq] at m
    rcases m with ⟨rfl, rfl⟩ | ⟨rfl, rfl⟩ | ⟨rfl, rfl⟩ | ⟨rfl, rfl⟩ | ⟨rfl, rfl⟩
    · exact ⟨g1, data_dict d1⟩
    · exact ⟨g2, data_dict d2⟩
    · exact ⟨g3, data_dict d3⟩
    · exact ⟨g4, data_dict d4⟩
    · exact ⟨x3, data_plain x6⟩
  have KX' : PySem.W.Frag.In (K ++ E) s1.heap := fun b u e => by
    rcases lookup_app e with e | e
    · exact KX b u e
    · exact (eA b u e).1
  have sub : ∀ a o, K.lookup a = some o → List.lookup a (K ++ E) = some o := fun a o e => lookup_l e
  have seer : ∀ base : Heap, PySem.W.Frag.In (K ++ E) base → base.NoSeer := fun base hb => by
    have at_ : ∀ b u, (b, u) ∈ E → base.get? b = some u := fun b u m => there_of KX' hb m (eA b u m).1
    have m1 := at_ cStatics o1 (by rw [← hE]; simp)
    have m2 := at_ sysModules o2 (by rw [← hE]; simp)
    have m3 := at_ builtinsNs o3 (by rw [← hE]; simp)
    have m4 := at_ mainGlobals o4 (by rw [← hE]; simp)
    have m5 := at_ bm ob (by rw [← hE]; simp)
    exact ⟨⟨mc, ⟨o1, es1, ep1, m1, d1, k1⟩, c1, c2⟩, ⟨mm, ⟨o2, es2, ep2, m2, d2, k2⟩, c3⟩, ⟨mb, ⟨o3, es3, ep3, m3, d3, k3⟩, G.T.builtins⟩, ⟨mg, bm, ob, ⟨o4, es4, ep4, m4, d4, k4⟩, x1, m5, x4, x5⟩⟩
  have noT : ∀ p, s1.heap.get? p = some { cls := .none, data := .fields #[] } → K.lookup p = none → List.lookup p (K ++ E) = none := fun p hp hk => by
    cases e : List.lookup p (K ++ E) with
    | none => rfl
    | some u =>
      rcases lookup_app e with z | z
      · rw [hk] at z
        cases z
      · obtain ⟨e1, _, e2⟩ := eA p u z
        rw [hp] at e1
        cases e1
        exact absurd rfl (e2 #[])
  have each : ∀ {Z : Addr × Addr → Prop}, Z (cLaw, pLaw) → Z (cP, pP) → Z (cB, pB) → ∀ p ∈ [(cLaw, pLaw), (cP, pP), (cB, pB)], Z p := fun {Z} z1 z2 z3 p hp => by
    simp only [List.mem_cons, List.not_mem_nil, or_false] at hp
    rcases hp with rfl | rfl | rfl
    · exact z1
    · exact z2
    · exact z3
  refine LamX.law_callTs (K := K ++ E) (CX := CX0) (k := 0 + 49) (fd := dLaw) (x := "_law_script") (sp := spLaw K pLaw pP pB) (cs := [(cLaw, pLaw), (cP, pP), (cB, pB)]) KX' G.T.g G.T.b G.T.builtins G.T.nolimit hg (each tL tP tB) (each (noT _ tL CL.2.2) (noT _ tP CP.2.2) (noT _ tB CB.2.2))
    (each (PySem.W.codeHd_of_K KX CL.2.1) (PySem.W.codeHd_of_K KX CP.2.1) (PySem.W.codeHd_of_K KX CB.2.1)) G.T.bmain hobj hints (Nat.le_trans hlen (Nat.le_of_lt (small1000 (by decide)))) ⟨rfl, by decide, by decide⟩ (fun base hb hns TB => ?_) hbind (fun H hH hS => ?_) (fun H e s' h => h)
  · have t1 := TB (cLaw, pLaw) (by simp)
    have t2 := TB (cP, pP) (by simp)
    have t3 := TB (cB, pB) (by simp)
    exact fnOk_sub sub (ok_law (k := 0) FL hcL t1 L T ⟨seer base hb, htree⟩ EX hcB t3 hcP t2 n1 n2)
  · refine ⟨a, ns, rfl, ?_, by omega, hH (cLaw, pLaw) (by simp), hH (cP, pP) (by simp), hH (cB, pB) (by simp), fun H' => rfl⟩
    rcases hS with h | ⟨ob', its, n, e1, e2, e3, e4, r⟩
    · exact .inl h
    · rcases lookup_app e1 with z | z
      · exact .inr ⟨ob', its, n, z, e2, e3, e4, r⟩
      · exact absurd e4 ((eA a ob' z).2.1 _ _)
end Yw
end
section
set_option maxRecDepth 100000
set_option maxHeartbeats 4000000
namespace Yw
open PySem PySem.Spec PyProof.Rows L2 HT
theorem df_mk {K : PySem.W.Frag} {h : Heap} {mg : Str → Option Value} {x : Str} {st : Stmt} {ps : List Str} {f : Addr} {oc : Value} {od an : Option Addr} {osl : Array (Option Value)} {kV doc pm cdv ct : Value} (X : K.In h) (G : h.Ns mainGlobals mg) (a : PySem.W.nsIn K mainGlobals x = some (some (.ref f)))
    (l : K.lookup f = some ⟨oc, od, .func (PySem.W.fnOf x x (defArgs st) (defBody st) (defScope st) .none kV doc pm an cdv ct), osl⟩) (c : PySem.W.codeIn K cdv x = true) (k : PySem.W.keepIn K (.ref f) = true)
    (hb : ∀ (kV doc pm : Value) (an : Option Addr) (cdv ct : Value) (us : List Value), us.length = ps.length → bindArgs (PySem.W.fnOf x x (defArgs st) (defBody st) (defScope st) .none kV doc pm an cdv ct) ⟨us, []⟩ = pure (ps.zip us)) :
    Df K mg x st ps f (PySem.W.fnOf x x (defArgs st) (defBody st) (defScope st) .none kV doc pm an cdv ct) :=
  ⟨fun_mk l c k, (fun_mk (st := st) l c k).binds hb, PySem.W.mg_of X G a⟩
theorem facts_mk {K : PySem.W.Frag} {h : Heap} {mg : Str → Option Value} {fa : Addr} (X : K.In h) (G : h.Ns mainGlobals mg) (hfa : mg "law" = some (.ref fa))
    {f1 : Addr} {oc1 kV1 dc1 pm1 ct1 cd1 : Value} {od1 an1 : Option Addr} {sl1 : Array (Option Value)}
    {f2 : Addr} {oc2 kV2 dc2 pm2 ct2 cd2 : Value} {od2 an2 : Option Addr} {sl2 : Array (Option Value)}
    {f3 : Addr} {oc3 kV3 dc3 pm3 ct3 : Value} {od3 an3 : Option Addr} {sl3 : Array (Option Value)}
    {cP pP : Addr} {ecP : Value} {dcP : Option Addr} {vcP : Array Value} {scP : Array (Option Value)}
    {f4 : Addr} {oc4 kV4 dc4 pm4 ct4 cd4 : Value} {od4 an4 : Option Addr} {sl4 : Array (Option Value)}
    {f5 : Addr} {oc5 kV5 dc5 pm5 ct5 cd5 : Value} {od5 an5 : Option Addr} {sl5 : Array (Option Value)}
    {f6 : Addr} {oc6 kV6 dc6 pm6 ct6 cd6 : Value} {od6 an6 : Option Addr} {sl6 : Array (Option Value)}
    {f7 : Addr} {oc7 kV7 dc7 pm7 ct7 cd7 : Value} {od7 an7 : Option Addr} {sl7 : Array (Option Value)}
    {f8 : Addr} {oc8 kV8 dc8 pm8 ct8 cd8 : Value} {od8 an8 : Option Addr} {sl8 : Array (Option Value)}
    {f9 : Addr} {oc9 kV9 dc9 pm9 ct9 cd9 : Value} {od9 an9 : Option Addr} {sl9 : Array (Option Value)}
    {f10 : Addr} {oc10 kV10 dc10 pm10 ct10 cd10 : Value} {od10 an10 : Option Addr} {sl10 : Array (Option Value)}
    {f11 : Addr} {oc11 kV11 dc11 pm11 ct11 cd11 : Value} {od11 an11 : Option Addr} {sl11 : Array (Option Value)}
    {f12 : Addr} {oc12 kV12 dc12 pm12 ct12 cd12 : Value} {od12 an12 : Option Addr} {sl12 : Array (Option Value)}
    {f13 : Addr} {oc13 kV13 dc13 pm13 ct13 cd13 : Value} {od13 an13 : Option Addr} {sl13 : Array (Option Value)}
    {f14 : Addr} {oc14 kV14 dc14 pm14 ct14 cd14 : Value} {od14 an14 : Option Addr} {sl14 : Array (Option Value)}
    {f15 : Addr} {oc15 kV15 dc15 pm15 ct15 cd15 : Value} {od15 an15 : Option Addr} {sl15 : Array (Option Value)}
    {f16 : Addr} {oc16 kV16 dc16 pm16 ct16 : Value} {od16 an16 : Option Addr} {sl16 : Array (Option Value)}
    {cB pB : Addr} {ecB : Value} {dcB : Option Addr} {vcB : Array Value} {scB : Array (Option Value)}
    {f17 : Addr} {oc17 kV17 dc17 pm17 ct17 cd17 : Value} {od17 an17 : Option Addr} {sl17 : Array (Option Value)}
    {f18 : Addr} {oc18 kV18 dc18 pm18 ct18 cd18 : Value} {od18 an18 : Option Addr} {sl18 : Array (Option Value)}
    {f19 : Addr} {oc19 kV19 dc19 pm19 ct19 cd19 : Value} {od19 an19 : Option Addr} {sl19 : Array (Option Value)}
    {f20 : Addr} {oc20 kV20 dc20 pm20 ct20 cd20 : Value} {od20 an20 : Option Addr} {sl20 : Array (Option Value)}
    {f21 : Addr} {oc21 kV21 dc21 pm21 ct21 cd21 : Value} {od21 an21 : Option Addr} {sl21 : Array (Option Value)}
    {f22 : Addr} {oc22 kV22 dc22 pm22 ct22 cd22 : Value} {od22 an22 : Option Addr} {sl22 : Array (Option Value)}
    {f23 : Addr} {oc23 kV23 dc23 pm23 ct23 cd23 : Value} {od23 an23 : Option Addr} {sl23 : Array (Option Value)}
    {f24 : Addr} {oc24 kV24 dc24 pm24 ct24 cd24 : Value} {od24 an24 : Option Addr} {sl24 : Array (Option Value)}
    {f25 : Addr} {oc25 kV25 dc25 pm25 ct25 cd25 : Value} {od25 an25 : Option Addr} {sl25 : Array (Option Value)}
    {f26 : Addr} {oc26 kV26 dc26 pm26 ct26 cd26 : Value} {od26 an26 : Option Addr} {sl26 : Array (Option Value)}
    {f27 : Addr} {oc27 kV27 dc27 pm27 ct27 cd27 : Value} {od27 an27 : Option Addr} {sl27 : Array (Option Value)}
    {f28 : Addr} {oc28 kV28 dc28 pm28 ct28 : Value} {od28 an28 : Option Addr} {sl28 : Array (Option Value)}
    {cLaw pLaw : Addr} {ecLaw : Value} {dcLaw : Option Addr} {vcLaw : Array Value} {scLaw : Array (Option Value)}
    {tm1 tm2 tm3 : Tok}
    {cN cL : Addr}
    (a1 : PySem.W.nsIn K mainGlobals "ratio" = some (some (.ref f1))) (l1 : K.lookup f1 = some ⟨oc1, od1, .func (PySem.W.fnOf "ratio" "ratio" (defArgs sRatio) (defBody sRatio) (defScope sRatio) .none kV1 dc1 pm1 an1 cd1 ct1), sl1⟩) (c1 : PySem.W.codeIn K cd1 "ratio" = true) (k1 : PySem.W.keepIn K (.ref f1) = true)
    (a2 : PySem.W.nsIn K mainGlobals "is_in" = some (some (.ref f2))) (l2 : K.lookup f2 = some ⟨oc2, od2, .func (PySem.W.fnOf "is_in" "is_in" (defArgs sIsIn) (defBody sIsIn) (defScope sIsIn) .none kV2 dc2 pm2 an2 cd2 ct2), sl2⟩) (c2 : PySem.W.codeIn K cd2 "is_in" = true) (k2 : PySem.W.keepIn K (.ref f2) = true)
    (a3 : PySem.W.nsIn K mainGlobals "need_payments" = some (some (.ref f3))) (l3 : K.lookup f3 = some ⟨oc3, od3, .func (PySem.W.fnOf "need_payments" "need_payments" (defArgs sNeedP) (defBody sNeedP) (defScope sNeedP) .none kV3 dc3 pm3 an3 (.ref cP) ct3), sl3⟩) (c3 : PySem.W.codeIn K (.ref cP) "need_payments" = true) (k3 : PySem.W.keepIn K (.ref f3) = true)
    (xcP : K.lookup cP = some ⟨ecP, dcP, .fields vcP, scP⟩) (ycP : vcP[11]? = some (.ref pP)) (zcP : PySem.W.codeHdIn K cP pP = true) (wcP : K.lookup pP = none)
    (a4 : PySem.W.nsIn K mainGlobals "need_time" = some (some (.ref f4))) (l4 : K.lookup f4 = some ⟨oc4, od4, .func (PySem.W.fnOf "need_time" "need_time" (defArgs sNeedT) (defBody sNeedT) (defScope sNeedT) .none kV4 dc4 pm4 an4 cd4 ct4), sl4⟩) (c4 : PySem.W.codeIn K cd4 "need_time" = true) (k4 : PySem.W.keepIn K (.ref f4) = true)
    (a5 : PySem.W.nsIn K mainGlobals "trimmed" = some (some (.ref f5))) (l5 : K.lookup f5 = some ⟨oc5, od5, .func (PySem.W.fnOf "trimmed" "trimmed" (defArgs sTrim) (defBody sTrim) (defScope sTrim) .none kV5 dc5 pm5 an5 cd5 ct5), sl5⟩) (c5 : PySem.W.codeIn K cd5 "trimmed" = true) (k5 : PySem.W.keepIn K (.ref f5) = true)
    (a6 : PySem.W.nsIn K mainGlobals "primitive" = some (some (.ref f6))) (l6 : K.lookup f6 = some ⟨oc6, od6, .func (PySem.W.fnOf "primitive" "primitive" (defArgs sPrim) (defBody sPrim) (defScope sPrim) .none kV6 dc6 pm6 an6 cd6 ct6), sl6⟩) (c6 : PySem.W.codeIn K cd6 "primitive" = true) (k6 : PySem.W.keepIn K (.ref f6) = true)
    (a7 : PySem.W.nsIn K mainGlobals "remainder" = some (some (.ref f7))) (l7 : K.lookup f7 = some ⟨oc7, od7, .func (PySem.W.fnOf "remainder" "remainder" (defArgs sRem) (defBody sRem) (defScope sRem) .none kV7 dc7 pm7 an7 cd7 ct7), sl7⟩) (c7 : PySem.W.codeIn K cd7 "remainder" = true) (k7 : PySem.W.keepIn K (.ref f7) = true)
    (a8 : PySem.W.nsIn K mainGlobals "derivative" = some (some (.ref f8))) (l8 : K.lookup f8 = some ⟨oc8, od8, .func (PySem.W.fnOf "derivative" "derivative" (defArgs sDer) (defBody sDer) (defScope sDer) .none kV8 dc8 pm8 an8 cd8 ct8), sl8⟩) (c8 : PySem.W.codeIn K cd8 "derivative" = true) (k8 : PySem.W.keepIn K (.ref f8) = true)
    (a9 : PySem.W.nsIn K mainGlobals "common_factor" = some (some (.ref f9))) (l9 : K.lookup f9 = some ⟨oc9, od9, .func (PySem.W.fnOf "common_factor" "common_factor" (defArgs sCf) (defBody sCf) (defScope sCf) .none kV9 dc9 pm9 an9 cd9 ct9), sl9⟩) (c9 : PySem.W.codeIn K cd9 "common_factor" = true) (k9 : PySem.W.keepIn K (.ref f9) = true)
    (a10 : PySem.W.nsIn K mainGlobals "quotient" = some (some (.ref f10))) (l10 : K.lookup f10 = some ⟨oc10, od10, .func (PySem.W.fnOf "quotient" "quotient" (defArgs sQuot) (defBody sQuot) (defScope sQuot) .none kV10 dc10 pm10 an10 cd10 ct10), sl10⟩) (c10 : PySem.W.codeIn K cd10 "quotient" = true) (k10 : PySem.W.keepIn K (.ref f10) = true)
    (a11 : PySem.W.nsIn K mainGlobals "simple" = some (some (.ref f11))) (l11 : K.lookup f11 = some ⟨oc11, od11, .func (PySem.W.fnOf "simple" "simple" (defArgs sSimple) (defBody sSimple) (defScope sSimple) .none kV11 dc11 pm11 an11 cd11 ct11), sl11⟩) (c11 : PySem.W.codeIn K cd11 "simple" = true) (k11 : PySem.W.keepIn K (.ref f11) = true)
    (a12 : PySem.W.nsIn K mainGlobals "chain_of" = some (some (.ref f12))) (l12 : K.lookup f12 = some ⟨oc12, od12, .func (PySem.W.fnOf "chain_of" "chain_of" (defArgs sChain) (defBody sChain) (defScope sChain) .none kV12 dc12 pm12 an12 cd12 ct12), sl12⟩) (c12 : PySem.W.codeIn K cd12 "chain_of" = true) (k12 : PySem.W.keepIn K (.ref f12) = true)
    (a13 : PySem.W.nsIn K mainGlobals "value_of" = some (some (.ref f13))) (l13 : K.lookup f13 = some ⟨oc13, od13, .func (PySem.W.fnOf "value_of" "value_of" (defArgs sVal) (defBody sVal) (defScope sVal) .none kV13 dc13 pm13 an13 cd13 ct13), sl13⟩) (c13 : PySem.W.codeIn K cd13 "value_of" = true) (k13 : PySem.W.keepIn K (.ref f13) = true)
    (a14 : PySem.W.nsIn K mainGlobals "changes_at" = some (some (.ref f14))) (l14 : K.lookup f14 = some ⟨oc14, od14, .func (PySem.W.fnOf "changes_at" "changes_at" (defArgs sChg) (defBody sChg) (defScope sChg) .none kV14 dc14 pm14 an14 cd14 ct14), sl14⟩) (c14 : PySem.W.codeIn K cd14 "changes_at" = true) (k14 : PySem.W.keepIn K (.ref f14) = true)
    (a15 : PySem.W.nsIn K mainGlobals "roots_in" = some (some (.ref f15))) (l15 : K.lookup f15 = some ⟨oc15, od15, .func (PySem.W.fnOf "roots_in" "roots_in" (defArgs sRoots) (defBody sRoots) (defScope sRoots) .none kV15 dc15 pm15 an15 cd15 ct15), sl15⟩) (c15 : PySem.W.codeIn K cd15 "roots_in" = true) (k15 : PySem.W.keepIn K (.ref f15) = true)
    (a16 : PySem.W.nsIn K mainGlobals "bound_of" = some (some (.ref f16))) (l16 : K.lookup f16 = some ⟨oc16, od16, .func (PySem.W.fnOf "bound_of" "bound_of" (defArgs sBound) (defBody sBound) (defScope sBound) .none kV16 dc16 pm16 an16 (.ref cB) ct16), sl16⟩) (c16 : PySem.W.codeIn K (.ref cB) "bound_of" = true) (k16 : PySem.W.keepIn K (.ref f16) = true)
    (xcB : K.lookup cB = some ⟨ecB, dcB, .fields vcB, scB⟩) (ycB : vcB[11]? = some (.ref pB)) (zcB : PySem.W.codeHdIn K cB pB = true) (wcB : K.lookup pB = none)
    (a17 : PySem.W.nsIn K mainGlobals "polynomial_of" = some (some (.ref f17))) (l17 : K.lookup f17 = some ⟨oc17, od17, .func (PySem.W.fnOf "polynomial_of" "polynomial_of" (defArgs sPoly) (defBody sPoly) (defScope sPoly) .none kV17 dc17 pm17 an17 cd17 ct17), sl17⟩) (c17 : PySem.W.codeIn K cd17 "polynomial_of" = true) (k17 : PySem.W.keepIn K (.ref f17) = true)
    (a18 : PySem.W.nsIn K mainGlobals "count_above" = some (some (.ref f18))) (l18 : K.lookup f18 = some ⟨oc18, od18, .func (PySem.W.fnOf "count_above" "count_above" (defArgs sAbove) (defBody sAbove) (defScope sAbove) .none kV18 dc18 pm18 an18 cd18 ct18), sl18⟩) (c18 : PySem.W.codeIn K cd18 "count_above" = true) (k18 : PySem.W.keepIn K (.ref f18) = true)
    (a19 : PySem.W.nsIn K mainGlobals "count_all" = some (some (.ref f19))) (l19 : K.lookup f19 = some ⟨oc19, od19, .func (PySem.W.fnOf "count_all" "count_all" (defArgs sAll) (defBody sAll) (defScope sAll) .none kV19 dc19 pm19 an19 cd19 ct19), sl19⟩) (c19 : PySem.W.codeIn K cd19 "count_all" = true) (k19 : PySem.W.keepIn K (.ref f19) = true)
    (a20 : PySem.W.nsIn K mainGlobals "yield_count" = some (some (.ref f20))) (l20 : K.lookup f20 = some ⟨oc20, od20, .func (PySem.W.fnOf "yield_count" "yield_count" (defArgs sCount) (defBody sCount) (defScope sCount) .none kV20 dc20 pm20 an20 cd20 ct20), sl20⟩) (c20 : PySem.W.codeIn K cd20 "yield_count" = true) (k20 : PySem.W.keepIn K (.ref f20) = true)
    (a21 : PySem.W.nsIn K mainGlobals "only_yield" = some (some (.ref f21))) (l21 : K.lookup f21 = some ⟨oc21, od21, .func (PySem.W.fnOf "only_yield" "only_yield" (defArgs sOnly) (defBody sOnly) (defScope sOnly) .none kV21 dc21 pm21 an21 cd21 ct21), sl21⟩) (c21 : PySem.W.codeIn K cd21 "only_yield" = true) (k21 : PySem.W.keepIn K (.ref f21) = true)
    (a22 : PySem.W.nsIn K mainGlobals "is_at_least" = some (some (.ref f22))) (l22 : K.lookup f22 = some ⟨oc22, od22, .func (PySem.W.fnOf "is_at_least" "is_at_least" (defArgs sAtL) (defBody sAtL) (defScope sAtL) .none kV22 dc22 pm22 an22 cd22 ct22), sl22⟩) (c22 : PySem.W.codeIn K cd22 "is_at_least" = true) (k22 : PySem.W.keepIn K (.ref f22) = true)
    (a23 : PySem.W.nsIn K mainGlobals "yield_floor" = some (some (.ref f23))) (l23 : K.lookup f23 = some ⟨oc23, od23, .func (PySem.W.fnOf "yield_floor" "yield_floor" (defArgs sFloor) (defBody sFloor) (defScope sFloor) .none kV23 dc23 pm23 an23 cd23 ct23), sl23⟩) (c23 : PySem.W.codeIn K cd23 "yield_floor" = true) (k23 : PySem.W.keepIn K (.ref f23) = true)
    (a24 : PySem.W.nsIn K mainGlobals "_law_taken" = some (some (.ref f24))) (l24 : K.lookup f24 = some ⟨oc24, od24, .func (PySem.W.fnOf "_law_taken" "_law_taken" (defArgs sTaken) (defBody sTaken) (defScope sTaken) .none kV24 dc24 pm24 an24 cd24 ct24), sl24⟩) (c24 : PySem.W.codeIn K cd24 "_law_taken" = true) (k24 : PySem.W.keepIn K (.ref f24) = true)
    (a25 : PySem.W.nsIn K mainGlobals "_law_pick" = some (some (.ref f25))) (l25 : K.lookup f25 = some ⟨oc25, od25, .func (PySem.W.fnOf "_law_pick" "_law_pick" (defArgs sPick) (defBody sPick) (defScope sPick) .none kV25 dc25 pm25 an25 cd25 ct25), sl25⟩) (c25 : PySem.W.codeIn K cd25 "_law_pick" = true) (k25 : PySem.W.keepIn K (.ref f25) = true)
    (a26 : PySem.W.nsIn K mainGlobals "_law_sign" = some (some (.ref f26))) (l26 : K.lookup f26 = some ⟨oc26, od26, .func (PySem.W.fnOf "_law_sign" "_law_sign" (defArgs sSign) (defBody sSign) (defScope sSign) .none kV26 dc26 pm26 an26 cd26 ct26), sl26⟩) (c26 : PySem.W.codeIn K cd26 "_law_sign" = true) (k26 : PySem.W.keepIn K (.ref f26) = true)
    (a27 : PySem.W.nsIn K mainGlobals "_law_told" = some (some (.ref f27))) (l27 : K.lookup f27 = some ⟨oc27, od27, .func (PySem.W.fnOf "_law_told" "_law_told" (defArgs sTold) (defBody sTold) (defScope sTold) .none kV27 dc27 pm27 an27 cd27 ct27), sl27⟩) (c27 : PySem.W.codeIn K cd27 "_law_told" = true) (k27 : PySem.W.keepIn K (.ref f27) = true)
    (a28 : PySem.W.nsIn K mainGlobals "law" = some (some (.ref f28))) (l28 : K.lookup f28 = some ⟨oc28, od28, .func (PySem.W.fnOf "law" "law" (defArgs sLaw) (defBody sLaw) (defScope sLaw) .none kV28 dc28 pm28 an28 (.ref cLaw) ct28), sl28⟩) (c28 : PySem.W.codeIn K (.ref cLaw) "law" = true) (k28 : PySem.W.keepIn K (.ref f28) = true)
    (xcLaw : K.lookup cLaw = some ⟨ecLaw, dcLaw, .fields vcLaw, scLaw⟩) (ycLaw : vcLaw[11]? = some (.ref pLaw)) (zcLaw : PySem.W.codeHdIn K cLaw pLaw = true) (wcLaw : K.lookup pLaw = none)
    (b_isinstance : PySem.W.nsIn K mainGlobals "isinstance" = some none)
    (b_int : PySem.W.nsIn K mainGlobals "int" = some none)
    (b_bool : PySem.W.nsIn K mainGlobals "bool" = some none)
    (b_tuple : PySem.W.nsIn K mainGlobals "tuple" = some none)
    (b_list : PySem.W.nsIn K mainGlobals "list" = some none)
    (b_len : PySem.W.nsIn K mainGlobals "len" = some none)
    (b_all : PySem.W.nsIn K mainGlobals "all" = some none)
    (b_any : PySem.W.nsIn K mainGlobals "any" = some none)
    (b_max : PySem.W.nsIn K mainGlobals "max" = some none)
    (b_abs : PySem.W.nsIn K mainGlobals "abs" = some none)
    (b_range : PySem.W.nsIn K mainGlobals "range" = some none)
    (b_enumerate : PySem.W.nsIn K mainGlobals "enumerate" = some none)
    (g_gcd : PySem.W.nsIn K mainGlobals "gcd" = some (some (.builtin "math.gcd")))
    (m1 : PySem.W.nsIn K mainGlobals "MOST_PAYMENTS" = some (some (.int 40 tm1)))
    (m2 : PySem.W.nsIn K mainGlobals "MOST_PAYMENT" = some (some (.int 1000000 tm2)))
    (m3 : PySem.W.nsIn K mainGlobals "MOST_PLACES" = some (some (.int 8 tm3)))
    (eN : PySem.W.nsIn K mainGlobals "NoYield" = some (some (.ref cN)))
    (eL : PySem.W.nsIn K mainGlobals "LifeError" = some (some (.ref cL)))
    (e1 : PySem.W.excIn K cN [.type "ValueError", .type "Exception", .type "BaseException", .type "object"] "ValueError.__new__" = true)
    (e2 : PySem.W.keepIn K (.ref cN) = true)
    (e3 : PySem.W.subIn K (.ref cN) (.type "BaseException") = some true)
    (e4 : PySem.W.typeIn K (.ref cN) = some (.type "type"))
    (e5 : PySem.W.exmOne K (.ref cN) (.ref cL) = some true)
    (e6 : PySem.W.findIn K (.ref cN) "__getattribute__" = some (some (.builtin "BaseException.__getattribute__")))
    (e7 : PySem.W.findIn K (.ref cN) "__getattr__" = some none)
    (e8 : PySem.W.hasDictIn K cN = true)
    (e9 : PySem.W.findIn K (.ref cN) "__class__" = some (some (.builtin "object.__class__")))
    (e10 : PySem.W.specialIn K (.builtin "object.__class__") "__get__" = some (some (.builtin "getset_descriptor.__get__")))
    (e11 : PySem.W.takesIn K (.builtin "object.__class__") = some true)
    (e12 : PySem.W.mroIn K cN (.type "object") = some true)
    (e13 : PySem.W.kitOne K (.ref cN) (.ref cN) = some true)
    (n1 : pLaw ≠ pP) (n2 : pLaw ≠ pB) : Facts K mg fa := by
  have ea := hfa.symm.trans (PySem.W.mg_of X G a28)
  cases ea
  have D1 : Df K mg "ratio" sRatio ["top", "bottom"] f1 _ := df_mk X G a1 l1 c1 k1 fun _ _ _ _ _ _ us hl => match us, hl with | [_, _], _ => rfl
  have D2 : Df K mg "is_in" sIsIn ["value", "least", "most"] f2 _ := df_mk X G a2 l2 c2 k2 fun _ _ _ _ _ _ us hl => match us, hl with | [_, _, _], _ => rfl
  have D3 : Df K mg "need_payments" sNeedP ["payments"] f3 _ := df_mk X G a3 l3 c3 k3 fun _ _ _ _ _ _ us hl => match us, hl with | [_], _ => rfl
  have D4 : Df K mg "need_time" sNeedT ["time", "least", "most"] f4 _ := df_mk X G a4 l4 c4 k4 fun _ _ _ _ _ _ us hl => match us, hl with | [_, _, _], _ => rfl
  have D5 : Df K mg "trimmed" sTrim ["some"] f5 _ := df_mk X G a5 l5 c5 k5 fun _ _ _ _ _ _ us hl => match us, hl with | [_], _ => rfl
  have D6 : Df K mg "primitive" sPrim ["some"] f6 _ := df_mk X G a6 l6 c6 k6 fun _ _ _ _ _ _ us hl => match us, hl with | [_], _ => rfl
  have D7 : Df K mg "remainder" sRem ["one", "other"] f7 _ := df_mk X G a7 l7 c7 k7 fun _ _ _ _ _ _ us hl => match us, hl with | [_, _], _ => rfl
  have D8 : Df K mg "derivative" sDer ["some"] f8 _ := df_mk X G a8 l8 c8 k8 fun _ _ _ _ _ _ us hl => match us, hl with | [_], _ => rfl
  have D9 : Df K mg "common_factor" sCf ["one", "other"] f9 _ := df_mk X G a9 l9 c9 k9 fun _ _ _ _ _ _ us hl => match us, hl with | [_, _], _ => rfl
  have D10 : Df K mg "quotient" sQuot ["one", "other"] f10 _ := df_mk X G a10 l10 c10 k10 fun _ _ _ _ _ _ us hl => match us, hl with | [_, _], _ => rfl
  have D11 : Df K mg "simple" sSimple ["some"] f11 _ := df_mk X G a11 l11 c11 k11 fun _ _ _ _ _ _ us hl => match us, hl with | [_], _ => rfl
  have D12 : Df K mg "chain_of" sChain ["some"] f12 _ := df_mk X G a12 l12 c12 k12 fun _ _ _ _ _ _ us hl => match us, hl with | [_], _ => rfl
  have D13 : Df K mg "value_of" sVal ["some", "place"] f13 _ := df_mk X G a13 l13 c13 k13 fun _ _ _ _ _ _ us hl => match us, hl with | [_, _], _ => rfl
  have D14 : Df K mg "changes_at" sChg ["chain", "place"] f14 _ := df_mk X G a14 l14 c14 k14 fun _ _ _ _ _ _ us hl => match us, hl with | [_, _], _ => rfl
  have D15 : Df K mg "roots_in" sRoots ["chain", "low", "high"] f15 _ := df_mk X G a15 l15 c15 k15 fun _ _ _ _ _ _ us hl => match us, hl with | [_, _, _], _ => rfl
  have D16 : Df K mg "bound_of" sBound ["some"] f16 _ := df_mk X G a16 l16 c16 k16 fun _ _ _ _ _ _ us hl => match us, hl with | [_], _ => rfl
  have D17 : Df K mg "polynomial_of" sPoly ["payments"] f17 _ := df_mk X G a17 l17 c17 k17 fun _ _ _ _ _ _ us hl => match us, hl with | [_], _ => rfl
  have D18 : Df K mg "count_above" sAbove ["some", "discount"] f18 _ := df_mk X G a18 l18 c18 k18 fun _ _ _ _ _ _ us hl => match us, hl with | [_, _], _ => rfl
  have D19 : Df K mg "count_all" sAll ["some"] f19 _ := df_mk X G a19 l19 c19 k19 fun _ _ _ _ _ _ us hl => match us, hl with | [_], _ => rfl
  have D20 : Df K mg "yield_count" sCount ["payments"] f20 _ := df_mk X G a20 l20 c20 k20 fun _ _ _ _ _ _ us hl => match us, hl with | [_], _ => rfl
  have D21 : Df K mg "only_yield" sOnly ["payments"] f21 _ := df_mk X G a21 l21 c21 k21 fun _ _ _ _ _ _ us hl => match us, hl with | [_], _ => rfl
  have D22 : Df K mg "is_at_least" sAtL ["some", "low", "unit"] f22 _ := df_mk X G a22 l22 c22 k22 fun _ _ _ _ _ _ us hl => match us, hl with | [_, _, _], _ => rfl
  have D23 : Df K mg "yield_floor" sFloor ["payments", "places"] f23 _ := df_mk X G a23 l23 c23 k23 fun _ _ _ _ _ _ us hl => match us, hl with | [_, _], _ => rfl
  have D24 : Df K mg "_law_taken" sTaken ["_law_row", "_law_many"] f24 _ := df_mk X G a24 l24 c24 k24 fun _ _ _ _ _ _ us hl => match us, hl with | [_, _], _ => rfl
  have D25 : Df K mg "_law_pick" sPick ["_law_row", "_law_things"] f25 _ := df_mk X G a25 l25 c25 k25 fun _ _ _ _ _ _ us hl => match us, hl with | [_, _], _ => rfl
  have D26 : Df K mg "_law_sign" sSign ["_law_payments", "_law_top", "_law_bottom"] f26 _ := df_mk X G a26 l26 c26 k26 fun _ _ _ _ _ _ us hl => match us, hl with | [_, _, _], _ => rfl
  have D27 : Df K mg "_law_told" sTold ["_law_work"] f27 _ := df_mk X G a27 l27 c27 k27 fun _ _ _ _ _ _ us hl => match us, hl with | [_], _ => rfl
  refine ⟨⟨_, _, D1, _, _, D2, _, _, D3, _, _, D4, _, _, D5, _, _, D6, _, _, D7, _, _, D8, _, _, D9, _, _, D10, _, _, D11, _, _, D12, _, _, D13, _, _, D14, _, _, D15, _, _, D16, _, _, D17, _, _, D18, _, _, D19, _, _, D20, _, _, D21, _, _, D22, _, _, D23, _, _, D24, _, _, D25, _, _, D26, _, _, D27⟩, _, cLaw, pLaw, cB, pB, cP, pP, cN, cL, fun_mk (st := sLaw) l28 c28 k28, fun s v => .of_eq rfl, rfl, rfl, rfl, ?_, ?_, ⟨⟨_, _, _, _, xcLaw, ycLaw⟩, zcLaw, wcLaw⟩, ⟨⟨_, _, _, _, xcB, ycB⟩, zcB, wcB⟩, ⟨⟨_, _, _, _, xcP, ycP⟩, zcP, wcP⟩, n1, n2⟩
  · exact ⟨PySem.W.mg_none_of X G b_isinstance, PySem.W.mg_none_of X G b_int, PySem.W.mg_none_of X G b_bool, PySem.W.mg_none_of X G b_tuple, PySem.W.mg_none_of X G b_list, PySem.W.mg_none_of X G b_len, PySem.W.mg_none_of X G b_all, PySem.W.mg_none_of X G b_any, PySem.W.mg_none_of X G b_max, PySem.W.mg_none_of X G b_abs, PySem.W.mg_none_of X G b_range, PySem.W.mg_none_of X G b_enumerate, PySem.W.mg_of X G g_gcd, ⟨_, PySem.W.mg_of X G m1⟩, ⟨_, PySem.W.mg_of X G m2⟩, ⟨_, PySem.W.mg_of X G m3⟩⟩
  · exact ⟨PySem.W.mg_of X G eN, e1, e2, e3, e4, PySem.W.mg_of X G eL, e5, ⟨e6, e7, e3, e8, e9, e10, e11, e12⟩, e13⟩
end Yw
end
open PySem PySem.W PyProof.Rows
set_option maxRecDepth 100000 in
set_option maxHeartbeats 0 in
theorem PySem.Challenge.cw_actuarium_k06_whole_yields_to_places_holds : PySem.Challenge.rw_actuarium_k06_whole_yields_to_places.Holds := by
  w_on; o_law; k_head; (case hw => w_witness2)
  k_fill
  refine Yw.walk_own (l := PySem.Challenge.rw_actuarium_k06_whole_yields_to_places) rfl rfl rfl ?r1 ?r2 ?r3 ?hi rfl (fun w h Y => PySem.W.km_in_of Y) ?F
  (case r1 => first | rfl | decide +kernel)
  (case r2 => first | rfl | decide +kernel)
  (case r3 => first | rfl | decide +kernel)
  (case hi => first | rfl | decide +kernel)
  case F =>
    intro w mg fa h Y KX G hmg
    refine' Yw.facts_mk KX G hmg ?a1 ?l1 ?c1 ?k1 ?a2 ?l2 ?c2 ?k2 ?a3 ?l3 ?c3 ?k3 ?xcP ?ycP ?zcP ?wcP ?a4 ?l4 ?c4 ?k4 ?a5 ?l5 ?c5 ?k5 ?a6 ?l6 ?c6 ?k6 ?a7 ?l7 ?c7 ?k7 ?a8 ?l8 ?c8 ?k8 ?a9 ?l9 ?c9 ?k9 ?a10 ?l10 ?c10 ?k10 ?a11 ?l11 ?c11 ?k11 ?a12 ?l12 ?c12 ?k12 ?a13 ?l13 ?c13 ?k13 ?a14 ?l14 ?c14 ?k14 ?a15 ?l15 ?c15 ?k15 ?a16 ?l16 ?c16 ?k16 ?xcB ?ycB ?zcB ?wcB ?a17 ?l17 ?c17 ?k17 ?a18 ?l18 ?c18 ?k18 ?a19 ?l19 ?c19 ?k19 ?a20 ?l20 ?c20 ?k20 ?a21 ?l21 ?c21 ?k21 ?a22 ?l22 ?c22 ?k22 ?a23 ?l23 ?c23 ?k23 ?a24 ?l24 ?c24 ?k24 ?a25 ?l25 ?c25 ?k25 ?a26 ?l26 ?c26 ?k26 ?a27 ?l27 ?c27 ?k27 ?a28 ?l28 ?c28 ?k28 ?xcLaw ?ycLaw ?zcLaw ?wcLaw ?b_isinstance ?b_int ?b_bool ?b_tuple ?b_list ?b_len ?b_all ?b_any ?b_max ?b_abs ?b_range ?b_enumerate ?g_gcd ?m1 ?m2 ?m3 ?eN ?eL ?e1 ?e2 ?e3 ?e4 ?e5 ?e6 ?e7 ?e8 ?e9 ?e10 ?e11 ?e12 ?e13 ?n1 ?n2
    (case a1 => k_is)
    (case l1 => k_is)
    (case c1 => k_is)
    (case k1 => k_is)
    (case a2 => k_is)
    (case l2 => k_is)
    (case c2 => k_is)
    (case k2 => k_is)
    (case a3 => k_is)
    (case l3 => k_is)
    (case c3 => k_is)
    (case k3 => k_is)
    (case xcP => k_is)
    (case ycP => first | rfl | decide +kernel | k_is)
    (case zcP => rfl)
    (case wcP => rfl)
    (case a4 => k_is)
    (case l4 => k_is)
    (case c4 => k_is)
    (case k4 => k_is)
    (case a5 => k_is)
    (case l5 => k_is)
    (case c5 => k_is)
    (case k5 => k_is)
    (case a6 => k_is)
    (case l6 => k_is)
    (case c6 => k_is)
    (case k6 => k_is)
    (case a7 => k_is)
    (case l7 => k_is)
    (case c7 => k_is)
    (case k7 => k_is)
    (case a8 => k_is)
    (case l8 => k_is)
    (case c8 => k_is)
    (case k8 => k_is)
    (case a9 => k_is)
    (case l9 => k_is)
    (case c9 => k_is)
    (case k9 => k_is)
    (case a10 => k_is)
    (case l10 => k_is)
    (case c10 => k_is)
    (case k10 => k_is)
    (case a11 => k_is)
    (case l11 => k_is)
    (case c11 => k_is)
    (case k11 => k_is)
    (case a12 => k_is)
    (case l12 => k_is)
    (case c12 => k_is)
    (case k12 => k_is)
    (case a13 => k_is)
    (case l13 => k_is)
    (case c13 => k_is)
    (case k13 => k_is)
    (case a14 => k_is)
    (case l14 => k_is)
    (case c14 => k_is)
    (case k14 => k_is)
    (case a15 => k_is)
    (case l15 => k_is)
    (case c15 => k_is)
    (case k15 => k_is)
    (case a16 => k_is)
    (case l16 => k_is)
    (case c16 => k_is)
    (case k16 => k_is)
    (case xcB => k_is)
    (case ycB => first | rfl | decide +kernel | k_is)
    (case zcB => rfl)
    (case wcB => rfl)
    (case a17 => k_is)
    (case l17 => k_is)
    (case c17 => k_is)
    (case k17 => k_is)
    (case a18 => k_is)
    (case l18 => k_is)
    (case c18 => k_is)
    (case k18 => k_is)
    (case a19 => k_is)
    (case l19 => k_is)
    (case c19 => k_is)
    (case k19 => k_is)
    (case a20 => k_is)
    (case l20 => k_is)
    (case c20 => k_is)
    (case k20 => k_is)
    (case a21 => k_is)
    (case l21 => k_is)
    (case c21 => k_is)
    (case k21 => k_is)
    (case a22 => k_is)
    (case l22 => k_is)
    (case c22 => k_is)
    (case k22 => k_is)
    (case a23 => k_is)
    (case l23 => k_is)
    (case c23 => k_is)
    (case k23 => k_is)
    (case a24 => k_is)
    (case l24 => k_is)
    (case c24 => k_is)
    (case k24 => k_is)
    (case a25 => k_is)
    (case l25 => k_is)
    (case c25 => k_is)
    (case k25 => k_is)
    (case a26 => k_is)
    (case l26 => k_is)
    (case c26 => k_is)
    (case k26 => k_is)
    (case a27 => k_is)
    (case l27 => k_is)
    (case c27 => k_is)
    (case k27 => k_is)
    (case a28 => k_is)
    (case l28 => k_is)
    (case c28 => k_is)
    (case k28 => k_is)
    (case xcLaw => k_is)
    (case ycLaw => first | rfl | decide +kernel | k_is)
    (case zcLaw => rfl)
    (case wcLaw => rfl)
    (case b_isinstance => k_is)
    (case b_int => k_is)
    (case b_bool => k_is)
    (case b_tuple => k_is)
    (case b_list => k_is)
    (case b_len => k_is)
    (case b_all => k_is)
    (case b_any => k_is)
    (case b_max => k_is)
    (case b_abs => k_is)
    (case b_range => k_is)
    (case b_enumerate => k_is)
    (case g_gcd => k_is)
    (case m1 => k_is)
    (case m2 => k_is)
    (case m3 => k_is)
    (case eN => k_is)
    (case eL => k_is)
    (case e1 => kernel_rfl)
    (case e2 => k_is)
    (case e3 => k_is)
    (case e4 => k_is)
    (case e5 => kernel_rfl)
    (case e6 => k_is)
    (case e7 => k_is)
    (case e8 => k_is)
    (case e9 => k_is)
    (case e10 => k_is)
    (case e11 => k_is)
    (case e12 => k_is)
    (case e13 => kernel_rfl)
    (case n1 => decide)
    (case n2 => decide)
