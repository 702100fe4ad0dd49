import PyProof.Rows.All
import Wide.All
import OpenK.AllK
import Wide.FinOn
import HandS.ForMost
import HandS.IsInst
import HandS.Gcd
import HandS.Star
import HandS.Wide
import KE.GoesEnum
import PyProof.NoPylong
import PySem.Challenge.RW_coilnets_k68_whole_matrices_of_chains
import HandS.Style
set_option Elab.async false
set_option linter.all false
set_option maxRecDepth 100000
section
set_option autoImplicit false
namespace PQ
/-! polynomials as lists of coefficients, by ascending powers -/
def ev : List Int → Int → Int
  | [], _ => 0
  | a :: p, x => a + x * ev p x
def n1 : List Int → Nat
  | [] => 0
  | a :: p => a.natAbs + n1 p
def padd : List Int → List Int → List Int
  | [], q => q
  | a :: p, [] => a :: p
  | a :: p, b :: q => (a + b) :: padd p q
def psc (c : Int) (p : List Int) : List Int := p.map (fun a => c * a)
def pmul : List Int → List Int → List Int
  | [], _ => []
  | a :: p, q => padd (psc a q) (0 :: pmul p q)
def psh (k : Nat) (p : List Int) : List Int := List.replicate k 0 ++ p
def cf (p : List Int) (i : Nat) : Int := p.getD i 0
def lead (p : List Int) : Int := cf p (p.length - 1)
def Trim (p : List Int) : Prop := p ≠ [] → lead p ≠ 0

@[simp] theorem ev_nil (x : Int) : ev [] x = 0 := rfl
@[simp] theorem ev_cons (a : Int) (p : List Int) (x : Int) : ev (a :: p) x = a + x * ev p x := rfl
@[simp] theorem n1_nil : n1 [] = 0 := rfl
@[simp] theorem n1_cons (a : Int) (p : List Int) : n1 (a :: p) = a.natAbs + n1 p := rfl
@[simp] theorem padd_nil_left (q : List Int) : padd [] q = q := by cases q <;> rfl
@[simp] theorem padd_nil_right (p : List Int) : padd p [] = p := by cases p <;> rfl
@[simp] theorem padd_cons (a b : Int) (p q : List Int) : padd (a :: p) (b :: q) = (a + b) :: padd p q := rfl
@[simp] theorem psc_nil (c : Int) : psc c [] = [] := rfl
@[simp] theorem psc_cons (c a : Int) (p : List Int) : psc c (a :: p) = (c * a) :: psc c p := rfl
@[simp] theorem pmul_nil (q : List Int) : pmul [] q = [] := rfl
@[simp] theorem pmul_cons (a : Int) (p q : List Int) : pmul (a :: p) q = padd (psc a q) (0 :: pmul p q) := rfl

theorem ev_padd (p q : List Int) (x : Int) : ev (padd p q) x = ev p x + ev q x := by
  induction p generalizing q with
  | nil => simp
  | cons a p ih =>
    cases q with
    | nil => simp
    | cons b q => simp only [padd_cons, ev_cons, ih]; grind
theorem ev_psc (c : Int) (p : List Int) (x : Int) : ev (psc c p) x = c * ev p x := by
  induction p with
  | nil => simp
  | cons a p ih => simp only [psc_cons, ev_cons, ih]; grind
theorem ev_pmul (p q : List Int) (x : Int) : ev (pmul p q) x = ev p x * ev q x := by
  induction p with
  | nil => simp
  | cons a p ih => simp only [pmul_cons, ev_padd, ev_psc, ev_cons, ih]; grind
theorem ev_append (p q : List Int) (x : Int) : ev (p ++ q) x = ev p x + x ^ p.length * ev q x := by
  induction p with
  | nil => simp
  | cons a p ih => simp only [List.cons_append, ev_cons, ih, List.length_cons, Int.pow_succ]; grind
theorem ev_replicate (k : Nat) (x : Int) : ev (List.replicate k 0) x = 0 := by
  induction k with
  | zero => rfl
  | succ k ih => rw [List.replicate_succ, ev_cons, ih]; simp
theorem ev_psh (k : Nat) (p : List Int) (x : Int) : ev (psh k p) x = x ^ k * ev p x := by
  unfold psh; rw [ev_append, ev_replicate, List.length_replicate]; simp

@[simp] theorem length_psc (c : Int) (p : List Int) : (psc c p).length = p.length := by simp [psc]
theorem length_padd (p q : List Int) : (padd p q).length = max p.length q.length := by
  induction p generalizing q with
  | nil => simp
  | cons a p ih =>
    cases q with
    | nil => simp
    | cons b q => simp only [padd_cons, List.length_cons, ih]; omega
theorem length_pmul (p q : List Int) (hp : p ≠ []) (hq : q ≠ []) : (pmul p q).length = p.length + q.length - 1 := by
  induction p with
  | nil => exact absurd rfl hp
  | cons a p ih =>
    simp only [pmul_cons, length_padd, length_psc, List.length_cons]
    have h1 : 0 < q.length := List.length_pos_iff.mpr hq
    by_cases h : p = []
    · subst h; simp; omega
    · have := ih h
      have h2 : 0 < p.length := List.length_pos_iff.mpr h
      omega
theorem length_pmul_nil (p : List Int) : (pmul p []).length = p.length := by
  induction p with
  | nil => simp
  | cons a p ih => simp only [pmul_cons, length_padd, psc_nil, List.length_cons, List.length_nil, ih]; omega
theorem length_pmul_le {p q : List Int} {d e : Nat} (hp : p.length ≤ d + 1) (hq : q.length ≤ e + 1) : (pmul p q).length ≤ d + e + 1 := by
  by_cases h1 : p = []
  · subst h1; simp
  · by_cases h2 : q = []
    · subst h2; rw [length_pmul_nil]; omega
    · rw [length_pmul p q h1 h2]
      have h2 : 0 < q.length := List.length_pos_iff.mpr h2
      omega
@[simp] theorem length_psh (k : Nat) (p : List Int) : (psh k p).length = k + p.length := by simp [psh]

/-! coefficients -/
@[simp] theorem cf_nil (i : Nat) : cf [] i = 0 := by simp [cf]
@[simp] theorem cf_cons_zero (a : Int) (p : List Int) : cf (a :: p) 0 = a := by simp [cf]
@[simp] theorem cf_cons_succ (a : Int) (p : List Int) (i : Nat) : cf (a :: p) (i + 1) = cf p i := by simp [cf]
theorem cf_ge {p : List Int} {i : Nat} (h : p.length ≤ i) : cf p i = 0 := by
  simp [cf, List.getD, List.getElem?_eq_none h]
theorem cf_lt {p : List Int} {i : Nat} (h : i < p.length) : cf p i = p[i] := by
  simp [cf, List.getD, h]
theorem cf_padd (p q : List Int) (i : Nat) : cf (padd p q) i = cf p i + cf q i := by
  induction p generalizing q i with
  | nil => simp
  | cons a p ih =>
    cases q with
    | nil => simp
    | cons b q => cases i <;> simp [ih]
theorem cf_psc (c : Int) (p : List Int) (i : Nat) : cf (psc c p) i = c * cf p i := by
  induction p generalizing i with
  | nil => simp
  | cons a p ih => cases i <;> simp [ih]
theorem cf_psh (k : Nat) (p : List Int) (i : Nat) : cf (psh k p) i = if i < k then 0 else cf p (i - k) := by
  induction k generalizing i with
  | zero => simp [psh]
  | succ k ih =>
    have e : psh (k + 1) p = 0 :: psh k p := by simp [psh, List.replicate_succ]
    rw [e]
    cases i with
    | zero => simp
    | succ i => simp [ih]
theorem cf_mem {p : List Int} {i : Nat} : cf p i = 0 ∨ cf p i ∈ p := by
  by_cases h : i < p.length
  · right; rw [cf_lt h]; exact List.getElem_mem h
  · left; exact cf_ge (by omega)

/-! sizes -/
theorem n1_padd (p q : List Int) : n1 (padd p q) ≤ n1 p + n1 q := by
  induction p generalizing q with
  | nil => simp
  | cons a p ih =>
    cases q with
    | nil => simp
    | cons b q =>
      have := ih q
      have := Int.natAbs_add_le a b
      simp only [padd_cons, n1_cons]; omega
theorem n1_psc (c : Int) (p : List Int) : n1 (psc c p) = c.natAbs * n1 p := by
  induction p with
  | nil => simp
  | cons a p ih => simp only [psc_cons, n1_cons, ih, Int.natAbs_mul, Nat.mul_add]
theorem n1_pmul (p q : List Int) : n1 (pmul p q) ≤ n1 p * n1 q := by
  induction p with
  | nil => simp
  | cons a p ih =>
    have h := n1_padd (psc a q) (0 :: pmul p q)
    simp only [pmul_cons, n1_cons, n1_psc, Nat.add_mul] at *
    simp at h
    omega
theorem n1_append (p q : List Int) : n1 (p ++ q) = n1 p + n1 q := by
  induction p with
  | nil => simp
  | cons a p ih => simp [ih, Nat.add_assoc]
theorem n1_replicate (k : Nat) : n1 (List.replicate k 0) = 0 := by
  induction k with
  | zero => rfl
  | succ k ih => rw [List.replicate_succ, n1_cons, ih]; rfl
theorem n1_psh (k : Nat) (p : List Int) : n1 (psh k p) = n1 p := by
  unfold psh; rw [n1_append, n1_replicate]; omega
theorem natAbs_le_n1 {p : List Int} {c : Int} (h : c ∈ p) : c.natAbs ≤ n1 p := by
  induction p with
  | nil => cases h
  | cons a p ih =>
    rcases List.mem_cons.mp h with rfl | h
    · simp
    · have := ih h; simp; omega
theorem cf_le_n1 (p : List Int) (i : Nat) : (cf p i).natAbs ≤ n1 p := by
  rcases cf_mem (p := p) (i := i) with h | h
  · rw [h]; simp
  · exact natAbs_le_n1 h
theorem n1_le_of {p : List Int} {B : Nat} (h : ∀ c ∈ p, c.natAbs ≤ B) : n1 p ≤ p.length * B := by
  induction p with
  | nil => simp
  | cons a p ih =>
    have h1 := h a (by simp)
    have h2 := ih (fun c hc => h c (by simp [hc]))
    simp only [n1_cons, List.length_cons, Nat.add_mul]; omega

/-! a trimmed polynomial but 0 is not 0 for great numbers -/
theorem lead_cons {a : Int} {p : List Int} (h : p ≠ []) : lead (a :: p) = lead p := by
  unfold lead
  have : 0 < p.length := List.length_pos_iff.mpr h
  obtain ⟨k, hk⟩ : ∃ k, p.length = k + 1 := ⟨p.length - 1, by omega⟩
  simp [hk]
@[simp] theorem lead_one (a : Int) : lead [a] = a := by simp [lead]
theorem Trim.tail {a : Int} {p : List Int} (h : Trim (a :: p)) : Trim p := fun hp => by
  have := h (by simp)
  rwa [lead_cons hp] at this
theorem Trim.nil : Trim [] := fun h => absurd rfl h
theorem ev_big {p : List Int} (hp : p ≠ []) (ht : Trim p) {x : Int} (hx : (n1 p : Int) < x) : ev p x ≠ 0 := by
  induction p with
  | nil => exact absurd rfl hp
  | cons a p ih =>
    by_cases h : p = []
    · subst h
      have := ht (by simp)
      simpa using this
    · have hx' : (n1 p : Int) < x := by simp at hx; omega
      have h1 := ih h ht.tail hx'
      rw [ev_cons]
      intro e
      have e1 : x * ev p x = -a := by omega
      have e2 : x.natAbs * (ev p x).natAbs = a.natAbs := by
        rw [← Int.natAbs_mul, e1, Int.natAbs_neg]
      have h2 : 1 ≤ (ev p x).natAbs := by omega
      have h3 : x.natAbs * 1 ≤ x.natAbs * (ev p x).natAbs := Nat.mul_le_mul_left _ h2
      simp at hx
      omega
/-- where both agree from some place on, the coefficients agree -/
theorem ev_inj {p q : List Int} {N : Int} (h : ∀ x, N ≤ x → ev p x = ev q x) : ∀ i, cf p i = cf q i := by
  induction p generalizing q N with
  | nil =>
    induction q generalizing N with
    | nil => intro i; rfl
    | cons b q ih =>
      have hb : b = 0 := by
        have h1 := h (max N (b.natAbs + 1)) (by omega)
        simp only [ev_nil, ev_cons] at h1
        by_cases e : ev q (max N (b.natAbs + 1)) = 0
        · rw [e] at h1; simpa using h1.symm
        · have e1 : (max N (b.natAbs + 1 : Int)) * ev q (max N (b.natAbs + 1)) = -b := by omega
          have e2 := congrArg Int.natAbs e1
          rw [Int.natAbs_mul, Int.natAbs_neg] at e2
          have h3 : (max N (b.natAbs + 1 : Int)).natAbs * 1 ≤ (max N (b.natAbs + 1 : Int)).natAbs * (ev q (max N (b.natAbs + 1))).natAbs := Nat.mul_le_mul_left _ (by omega)
          omega
      subst hb
      have ih' := ih (N := max N 1) (fun x hx => by
        have h1 := h x (by omega)
        simp only [ev_nil, ev_cons] at h1
        have h2 : x * ev q x = 0 := by omega
        rcases Int.mul_eq_zero.mp h2 with e | e
        · omega
        · simp [e])
      intro i
      cases i with
      | zero => simp
      | succ i => simpa using ih' i
  | cons a p ih =>
    have key : ∀ (b : Int) (q : List Int), (∀ x, N ≤ x → a + x * ev p x = b + x * ev q x) → a = b ∧ ∀ i, cf p i = cf q i := by
      intro b q h
      have hab : a = b := by
        have h1 := h (max N ((a - b).natAbs + 1)) (by omega)
        generalize hX : (max N ((a - b).natAbs + 1 : Int)) = X at h1
        have e1 : X * (ev q X - ev p X) = a - b := by rw [Int.mul_sub]; omega
        by_cases e : ev q X - ev p X = 0
        · rw [e] at e1; omega
        · have e2 := congrArg Int.natAbs e1
          rw [Int.natAbs_mul] at e2
          have h3 : X.natAbs * 1 ≤ X.natAbs * (ev q X - ev p X).natAbs := Nat.mul_le_mul_left _ (by omega)
          omega
      refine ⟨hab, ih (q := q) (N := max N 1) fun x hx => ?_⟩
      have h1 := h x (by omega)
      have h2 : x * (ev p x - ev q x) = 0 := by rw [Int.mul_sub]; omega
      rcases Int.mul_eq_zero.mp h2 with e | e <;> omega
    cases q with
    | nil =>
      obtain ⟨h1, h2⟩ := key 0 [] (fun x hx => by simpa using h x hx)
      intro i
      cases i with
      | zero => simpa using h1
      | succ i => simpa using h2 i
    | cons b q =>
      obtain ⟨h1, h2⟩ := key b q (fun x hx => by simpa using h x hx)
      intro i
      cases i with
      | zero => simpa using h1
      | succ i => simpa using h2 i
theorem cf_inj {p q : List Int} (hp : Trim p) (hq : Trim q) (h : ∀ i, cf p i = cf q i) : p = q := by
  have hlen : ∀ {p q : List Int}, Trim p → (∀ i, cf p i = cf q i) → p.length ≤ q.length := by
    intro p q hp h
    apply Nat.le_of_not_lt
    intro hlt
    have h1 : p ≠ [] := by intro e; subst e; simp at hlt
    have h2 := h (p.length - 1)
    rw [cf_ge (p := q) (by omega)] at h2
    exact hp h1 h2
  have e : p.length = q.length := Nat.le_antisymm (hlen hp h) (hlen hq (fun i => (h i).symm))
  apply List.ext_getElem e
  intro i h1 h2
  have := h i
  rwa [cf_lt h1, cf_lt h2] at this
theorem trim_inj {p q : List Int} (hp : Trim p) (hq : Trim q) {N : Int} (h : ∀ x, N ≤ x → ev p x = ev q x) : p = q := cf_inj hp hq (ev_inj h)
theorem len_inj {p q : List Int} (hl : p.length = q.length) {N : Int} (h : ∀ x, N ≤ x → ev p x = ev q x) : p = q := by
  apply List.ext_getElem hl
  intro i h1 h2
  have := ev_inj h i
  rwa [cf_lt h1, cf_lt h2] at this
/-- equal from some place on: equal everywhere -/
theorem ev_cf {p q : List Int} (h : ∀ i, cf p i = cf q i) (x : Int) : ev p x = ev q x := by
  induction p generalizing q with
  | nil =>
    induction q with
    | nil => rfl
    | cons b q ih =>
      have hb := h 0
      have ht := ih (fun i => by have := h (i + 1); simpa using this)
      simp at hb
      rw [ev_cons, ← ht, ← hb]; simp
  | cons a p ih =>
    cases q with
    | nil =>
      have hb := h 0
      have ht := ih (q := []) (fun i => by have := h (i + 1); simpa using this)
      simp at hb
      rw [ev_cons, ht, hb]; simp
    | cons b q =>
      have hb := h 0
      have ht := ih (q := q) (fun i => by have := h (i + 1); simpa using this)
      simp at hb
      rw [ev_cons, ev_cons, ht, hb]
theorem ev_all {p q : List Int} {N : Int} (h : ∀ x, N ≤ x → ev p x = ev q x) (x : Int) : ev p x = ev q x := ev_cf (ev_inj h) x

/-! trimming -/
def trim : List Int → List Int
  | [] => []
  | a :: p => match trim p with
    | [] => if a = 0 then [] else [a]
    | b :: q => a :: b :: q
theorem trim_cons (a : Int) (p : List Int) : trim (a :: p) = if trim p = [] then (if a = 0 then [] else [a]) else a :: trim p := by
  show (match trim p with
    | [] => if a = 0 then [] else [a]
    | b :: q => a :: b :: q) = _
  cases trim p <;> simp
theorem trim_ok (p : List Int) : Trim (trim p) := by
  induction p with
  | nil => exact Trim.nil
  | cons a p ih =>
    rw [trim_cons]
    by_cases h : trim p = []
    · rw [if_pos h]
      by_cases h0 : a = 0
      · rw [if_pos h0]; exact Trim.nil
      · rw [if_neg h0]; intro _; simpa using h0
    · rw [if_neg h]; intro _; rw [lead_cons h]; exact ih h
theorem ev_trim (p : List Int) (x : Int) : ev (trim p) x = ev p x := by
  induction p with
  | nil => rfl
  | cons a p ih =>
    rw [trim_cons]
    by_cases h : trim p = []
    · rw [h] at ih
      rw [if_pos h]
      by_cases h0 : a = 0
      · rw [if_pos h0, ev_cons, ← ih, h0]; simp
      · rw [if_neg h0, ev_cons, ev_cons, ← ih]
    · rw [if_neg h, ev_cons, ev_cons, ih]
theorem n1_trim (p : List Int) : n1 (trim p) = n1 p := by
  induction p with
  | nil => rfl
  | cons a p ih =>
    rw [trim_cons]
    by_cases h : trim p = []
    · rw [h] at ih
      rw [if_pos h]
      by_cases h0 : a = 0
      · rw [if_pos h0, n1_cons, ← ih, h0]; simp
      · rw [if_neg h0, n1_cons, n1_cons, ← ih]
    · rw [if_neg h, n1_cons, n1_cons, ih]
theorem length_trim (p : List Int) : (trim p).length ≤ p.length := by
  induction p with
  | nil => simp [trim]
  | cons a p ih =>
    rw [trim_cons]
    split
    · split <;> simp
    · simp; exact ih
theorem trim_id {p : List Int} (h : Trim p) : trim p = p := trim_inj (trim_ok p) h (N := 0) fun x _ => ev_trim p x
theorem trim_take (p : List Int) : ∃ m, m ≤ p.length ∧ trim p = p.take m ∧ (∀ i, m ≤ i → cf p i = 0) ∧ (m = 0 ∨ cf p (m - 1) ≠ 0) := by
  induction p with
  | nil => exact ⟨0, by simp, rfl, by simp, .inl rfl⟩
  | cons a p ih =>
    obtain ⟨m, h1, h2, h3, h4⟩ := ih
    rw [trim_cons]
    by_cases h : trim p = []
    · rw [if_pos h]
      have hm : m = 0 := by
        rw [h] at h2
        have := congrArg List.length h2
        rw [List.length_nil, List.length_take] at this
        omega
      subst hm
      by_cases h0 : a = 0
      · rw [if_pos h0]
        refine ⟨0, by simp, rfl, fun i _ => ?_, .inl rfl⟩
        cases i with
        | zero => simpa using h0
        | succ i => simpa using h3 i (by omega)
      · rw [if_neg h0]
        refine ⟨1, by simp, by simp, fun i hi => ?_, .inr (by simpa using h0)⟩
        cases i with
        | zero => omega
        | succ i => simpa using h3 i (by omega)
    · rw [if_neg h]
      have hm : m ≠ 0 := by intro e; subst e; exact h (by simpa using h2)
      refine ⟨m + 1, by simp; exact h1, by rw [List.take_succ_cons, h2], fun i hi => ?_, .inr ?_⟩
      · cases i with
        | zero => omega
        | succ i => simpa using h3 i (by omega)
      · rcases h4 with e | e
        · exact absurd e hm
        · obtain ⟨k, rfl⟩ : ∃ k, m = k + 1 := ⟨m - 1, by omega⟩
          simpa using e
/-- what a loop from the end finds is trim -/
theorem trim_of {p : List Int} {m : Nat} (h3 : ∀ i, m ≤ i → cf p i = 0) (h4 : m = 0 ∨ cf p (m - 1) ≠ 0) : p.take m = trim p := by
  obtain ⟨k, k1, k2, k3, k4⟩ := trim_take p
  have : m = k := by
    rcases Nat.lt_trichotomy m k with h | h | h
    · rcases k4 with e | e
      · omega
      · exact absurd (h3 (k - 1) (by omega)) e
    · exact h
    · rcases h4 with e | e
      · omega
      · exact absurd (k3 (m - 1) (by omega)) e
  rw [this, k2]
theorem lead_pmul {p q : List Int} (h1 : p ≠ []) (h2 : q ≠ []) : lead (pmul p q) = lead p * lead q := by
  have key : ∀ (p q : List Int), p ≠ [] → q ≠ [] → cf (pmul p q) (p.length + q.length - 2) = lead p * lead q := by
    intro p q h1 h2
    induction p with
    | nil => exact absurd rfl h1
    | cons a p ih =>
      have hq0 : 0 < q.length := List.length_pos_iff.mpr h2
      by_cases h : p = []
      · subst h
        rw [pmul_cons, cf_padd, cf_psc]
        have : [a].length + q.length - 2 = q.length - 1 := by simp; omega
        rw [this, pmul_nil]
        have : cf [0] (q.length - 1) = 0 := by
          by_cases e : q.length - 1 = 0
          · rw [e]; rfl
          · exact cf_ge (by simp; omega)
        rw [this, lead_one]; simp [lead]
      · have hp0 : 0 < p.length := List.length_pos_iff.mpr h
        have ih' := ih h
        rw [pmul_cons, cf_padd, cf_psc]
        have e1 : (a :: p).length + q.length - 2 = (p.length + q.length - 2) + 1 := by simp; omega
        rw [e1, cf_cons_succ, ih', cf_ge (p := q) (by omega), lead_cons h]; omega
  have h0 := key p q h1 h2
  have h3 : 0 < q.length := List.length_pos_iff.mpr h2
  have h4 : 0 < p.length := List.length_pos_iff.mpr h1
  rw [← h0]
  unfold lead
  rw [length_pmul p q h1 h2]
  congr 1
theorem Trim.pmul {p q : List Int} (hp : Trim p) (hq : Trim q) (h1 : p ≠ []) (h2 : q ≠ []) : Trim (PQ.pmul p q) := fun _ => by
  rw [lead_pmul h1 h2]
  exact fun h => (Int.mul_eq_zero.mp h).elim (hp h1) (hq h2)
theorem pmul_ne {p q : List Int} (h1 : p ≠ []) (h2 : q ≠ []) : pmul p q ≠ [] := by
  intro e
  have := length_pmul p q h1 h2
  have h3 : 0 < q.length := List.length_pos_iff.mpr h2
  have h4 : 0 < p.length := List.length_pos_iff.mpr h1
  rw [e] at this; simp at this; omega
/-- the greatest of the places from which all is known not to be 0 -/
theorem ev_ne {p : List Int} (hp : p ≠ []) (ht : Trim p) : ∃ N : Int, 0 ≤ N ∧ ∀ x, N ≤ x → ev p x ≠ 0 := ⟨(n1 p : Int) + 1, by omega, fun x hx => ev_big hp ht (by omega)⟩
theorem ev_ne_of {p : List Int} {y : Int} (h : ev p y ≠ 0) : ∃ N : Int, 0 ≤ N ∧ ∀ x, N ≤ x → ev p x ≠ 0 := by
  obtain ⟨N, h0, h1⟩ := ev_ne (p := trim p) (fun e => h (by rw [← ev_trim, e]; rfl)) (trim_ok p)
  exact ⟨N, h0, fun x hx => by rw [← ev_trim]; exact h1 x hx⟩
theorem exists_ne {p : List Int} (hp : p ≠ []) (ht : Trim p) : ∃ y, ev p y ≠ 0 := let ⟨N, _, h⟩ := ev_ne hp ht; ⟨N, h N (Int.le_refl _)⟩
theorem eq_nil_of {p : List Int} (ht : Trim p) {N : Int} (h : ∀ x, N ≤ x → ev p x = 0) : p = [] := trim_inj ht Trim.nil (N := N) (by simpa using h)
/-- cancelling -/
theorem ev_cancel {p q g : List Int} (hg : ∃ y, ev g y ≠ 0) (h : ∀ x, ev g x * ev p x = ev g x * ev q x) (x : Int) : ev p x = ev q x := by
  obtain ⟨y, hy⟩ := hg
  obtain ⟨N, _, hN⟩ := ev_ne_of hy
  exact ev_all (N := N) (fun x hx => Int.eq_of_mul_eq_mul_left (hN x hx) (h x)) x
end PQ
end
section
set_option autoImplicit false
namespace PQ
/-! content -/
def ct : List Int → Nat
  | [] => 0
  | a :: p => Nat.gcd a.natAbs (ct p)
@[simp] theorem ct_nil : ct [] = 0 := rfl
@[simp] theorem ct_cons (a : Int) (p : List Int) : ct (a :: p) = Nat.gcd a.natAbs (ct p) := rfl
theorem ct_fold (p : List Int) (g : Nat) : p.foldl (fun g a => Nat.gcd g a.natAbs) g = Nat.gcd g (ct p) := by
  induction p generalizing g with
  | nil => simp
  | cons a p ih => rw [List.foldl_cons, ih, ct_cons, Nat.gcd_assoc]
theorem ct_dvd {p : List Int} {c : Int} (h : c ∈ p) : (ct p : Int) ∣ c := by
  induction p with
  | nil => cases h
  | cons a p ih =>
    rcases List.mem_cons.mp h with rfl | h
    · exact Int.ofNat_dvd_left.mpr (Nat.gcd_dvd_left _ _)
    · exact Int.dvd_trans (Int.natCast_dvd_natCast.mpr (Nat.gcd_dvd_right _ _)) (ih h)
theorem dvd_ct {p : List Int} {d : Nat} (h : ∀ c ∈ p, (d : Int) ∣ c) : d ∣ ct p := by
  induction p with
  | nil => exact Nat.dvd_zero d
  | cons a p ih => exact Nat.dvd_gcd (Int.ofNat_dvd_left.mp (h a (by simp))) (ih fun c hc => h c (by simp [hc]))
theorem ct_psc (c : Int) (p : List Int) : ct (psc c p) = c.natAbs * ct p := by
  induction p with
  | nil => simp
  | cons a p ih => rw [psc_cons, ct_cons, ct_cons, ih, Int.natAbs_mul, Nat.gcd_mul_left]
theorem ct_zero {p : List Int} (h : ct p = 0) (x : Int) : ev p x = 0 := by
  induction p with
  | nil => rfl
  | cons a p ih =>
    rw [ct_cons, Nat.gcd_eq_zero_iff] at h
    rw [ev_cons, ih h.2]; omega
theorem ct_pos {p : List Int} (hp : p ≠ []) (ht : Trim p) : 0 < ct p := by
  apply Nat.pos_of_ne_zero
  intro h
  exact hp (eq_nil_of ht (N := 0) fun x _ => ct_zero h x)
theorem ct_le_n1 {p : List Int} (h : n1 p ≠ 0) : ct p ≤ n1 p := by
  induction p with
  | nil => simp at h
  | cons a p ih =>
    simp only [n1_cons, ct_cons] at *
    by_cases h1 : a.natAbs = 0
    · rw [h1, Nat.gcd_zero_left]; have := ih (by omega); omega
    · have := Nat.gcd_le_left (ct p) (Nat.pos_of_ne_zero h1); omega
/-- all coefficients divided exactly -/
def dv (p : List Int) (d : Int) : List Int := p.map (fun a => a / d)
theorem dv_ok {p : List Int} {d : Int} (h : ∀ c ∈ p, d ∣ c) : psc d (dv p d) = p := by
  induction p with
  | nil => rfl
  | cons a p ih =>
    show (d * (a / d)) :: psc d (dv p d) = a :: p
    rw [ih fun c hc => h c (by simp [hc]), Int.mul_ediv_cancel' (h a (by simp))]
theorem dv_ct (p : List Int) : psc (ct p) (dv p (ct p)) = p := dv_ok fun _ hc => ct_dvd hc
theorem length_dv (p : List Int) (d : Int) : (dv p d).length = p.length := by simp [dv]

/-! Gauss's lemma -/
def Pr (p : Nat) : Prop := 2 ≤ p ∧ ∀ d, d ∣ p → d = 1 ∨ d = p
theorem Pr.split {p : Nat} (hp : Pr p) {a b : Int} (h : (p : Int) ∣ a * b) : (p : Int) ∣ a ∨ (p : Int) ∣ b := by
  have h' : p ∣ a.natAbs * b.natAbs := by rw [← Int.natAbs_mul]; exact Int.ofNat_dvd_left.mp h
  rcases hp.2 _ (Nat.gcd_dvd_left p a.natAbs) with e | e
  · right
    exact Int.ofNat_dvd_left.mpr (Nat.Coprime.dvd_of_dvd_mul_left e h')
  · left
    have := Nat.gcd_dvd_right p a.natAbs
    rw [e] at this
    exact Int.ofNat_dvd_left.mpr this
def PD (d : Int) (p : List Int) : Prop := ∀ c ∈ p, d ∣ c
theorem PD.ev {d : Int} {p : List Int} (h : PD d p) (x : Int) : PQ.ev p x = d * PQ.ev (dv p d) x := by rw [← ev_psc, dv_ok h]
/-- x times something, divided by x -/
theorem shift_out {f : List Int} {r : List Int} {d : Int} (hd : d ≠ 0) (h : ∀ x, x * ev f x = d * ev r x) : ∃ r', ∀ x, ev f x = d * ev r' x := by
  have h0 := h 0
  cases r with
  | nil =>
    refine ⟨[], fun x => ?_⟩
    refine ev_all (p := f) (q := psc d []) (N := 1) (fun x hx => ?_) x |>.trans (by simp)
    have h1 : x * ev f x = 0 := by rw [h x]; simp
    rcases Int.mul_eq_zero.mp h1 with e | e
    · omega
    · simp [e]
  | cons b r =>
    have hb : b = 0 := by
      rw [ev_cons] at h0
      have h1 : d * b = 0 := by rw [Int.zero_mul, Int.zero_mul, Int.add_zero] at h0; exact h0.symm
      rcases Int.mul_eq_zero.mp h1 with e | e
      · exact absurd e hd
      · exact e
    subst hb
    refine ⟨r, fun x => ?_⟩
    rw [← ev_psc]
    refine ev_all (N := 1) (fun x hx => ?_) x
    rw [ev_psc]
    have h1 := h x
    rw [ev_cons] at h1
    exact Int.eq_of_mul_eq_mul_left (a := x) (by omega) (by rw [h1]; grind)
theorem Pr.gauss {p : Nat} (hp : Pr p) : ∀ (n : Nat) (g w r : List Int), g.length + w.length ≤ n → (∀ x, ev g x * ev w x = p * ev r x) → PD p g ∨ PD p w := by
  have hp0 : (p : Int) ≠ 0 := by have := hp.1; omega
  intro n
  induction n with
  | zero =>
    intro g w r hl _
    have : g = [] := List.length_eq_zero_iff.mp (by omega)
    subst this
    exact .inl fun c hc => nomatch hc
  | succ n ih =>
    intro g w r hl h
    cases g with
    | nil => exact .inl fun c hc => nomatch hc
    | cons a g =>
      cases w with
      | nil => exact .inr fun c hc => nomatch hc
      | cons c w =>
        have h0 := h 0
        simp only [ev_cons, Int.zero_mul, Int.add_zero] at h0
        rcases hp.split (a := a) (b := c) ⟨_, h0⟩ with ⟨a1, ha⟩ | ⟨c1, hc⟩
        · obtain ⟨r', hr⟩ := shift_out (f := pmul g (c :: w)) (r := padd r (psc (-a1) (c :: w))) hp0 (fun x => by
            have := h x
            rw [ev_pmul, ev_padd, ev_psc]
            rw [ev_cons, ha] at this
            grind)
          rcases ih g (c :: w) r' (by simp at *; omega) (fun x => by rw [← ev_pmul]; exact hr x) with e | e
          · left
            intro z hz
            rcases List.mem_cons.mp hz with rfl | hz
            · exact ⟨a1, ha⟩
            · exact e z hz
          · exact .inr e
        · obtain ⟨r', hr⟩ := shift_out (f := pmul (a :: g) w) (r := padd r (psc (-c1) (a :: g))) hp0 (fun x => by
            have := h x
            rw [ev_pmul, ev_padd, ev_psc]
            rw [ev_cons c, hc] at this
            grind)
          rcases ih (a :: g) w r' (by simp at *; omega) (fun x => by rw [← ev_pmul]; exact hr x) with e | e
          · exact .inl e
          · right
            intro z hz
            rcases List.mem_cons.mp hz with rfl | hz
            · exact ⟨c1, hc⟩
            · exact e z hz
theorem gauss2_nat {t b : List Int} (hg : Nat.gcd (ct t) (ct b) = 1) : ∀ (n : Nat), 0 < n → ∀ (K P Q : List Int), (∀ x, n * ev P x = ev t x * ev K x) → (∀ x, n * ev Q x = ev b x * ev K x) → ∃ K', ∀ x, ev K x = n * ev K' x := by
  intro n
  induction n using Nat.strongRecOn with
  | ind n ih =>
    intro hn K P Q hP hQ
    by_cases h1 : n = 1
    · subst h1; exact ⟨K, fun x => by simp⟩
    · by_cases hpr : Pr n
      · rcases hpr.gauss _ t K P (Nat.le_refl _) (fun x => (hP x).symm) with e | e
        · rcases hpr.gauss _ b K Q (Nat.le_refl _) (fun x => (hQ x).symm) with e' | e'
          · have := Nat.dvd_gcd (dvd_ct e) (dvd_ct e')
            rw [hg] at this
            have := Nat.le_of_dvd (by decide) this
            omega
          · exact ⟨_, e'.ev⟩
        · exact ⟨_, e.ev⟩
      · obtain ⟨d, hd, hd1, hdn⟩ : ∃ d, d ∣ n ∧ d ≠ 1 ∧ d ≠ n := by
          apply Classical.byContradiction
          intro hc
          apply hpr
          refine ⟨by omega, fun d hd => ?_⟩
          apply Classical.byContradiction
          intro h2
          exact hc ⟨d, hd, fun e => h2 (.inl e), fun e => h2 (.inr e)⟩
        obtain ⟨e, rfl⟩ := hd
        have hd0 : 0 < d := Nat.pos_of_ne_zero fun z => by subst z; simp at hn
        have he0 : 0 < e := Nat.pos_of_ne_zero fun z => by subst z; simp at hn
        have hlt : d < d * e := by
          have : e ≠ 1 := fun z => hdn (by rw [z]; omega)
          have : d * 2 ≤ d * e := Nat.mul_le_mul_left _ (by omega)
          omega
        have hlt2 : e < d * e := by
          have : 2 * e ≤ d * e := Nat.mul_le_mul_right _ (by omega)
          omega
        obtain ⟨K1, hK1⟩ := ih d hlt hd0 K (psc e P) (psc e Q) (fun x => by rw [ev_psc, ← hP]; push_cast; grind) (fun x => by rw [ev_psc, ← hQ]; push_cast; grind)
        have hd' : (d : Int) ≠ 0 := by omega
        obtain ⟨K2, hK2⟩ := ih e hlt2 he0 K1 P Q (fun x => Int.eq_of_mul_eq_mul_left hd' (by have := hP x; rw [hK1] at this; push_cast at this; grind)) (fun x => Int.eq_of_mul_eq_mul_left hd' (by have := hQ x; rw [hK1] at this; push_cast at this; grind))
        exact ⟨K2, fun x => by rw [hK1, hK2]; push_cast; grind⟩
theorem gauss2 {t b K P Q : List Int} {n : Int} (hg : Nat.gcd (ct t) (ct b) = 1) (hn : n ≠ 0) (hP : ∀ x, n * ev P x = ev t x * ev K x) (hQ : ∀ x, n * ev Q x = ev b x * ev K x) :
    ∃ K', (∀ x, ev P x = ev t x * ev K' x) ∧ ∀ x, ev Q x = ev b x * ev K' x := by
  have fin : ∀ K', (∀ x, ev K x = n * ev K' x) → (∀ x, ev P x = ev t x * ev K' x) ∧ ∀ x, ev Q x = ev b x * ev K' x := fun K' h =>
    ⟨fun x => Int.eq_of_mul_eq_mul_left hn (by rw [hP, h]; grind), fun x => Int.eq_of_mul_eq_mul_left hn (by rw [hQ, h]; grind)⟩
  rcases Int.natAbs_eq n with e | e
  · obtain ⟨K', h⟩ := gauss2_nat hg n.natAbs (by omega) K P Q (fun x => by rw [← e]; exact hP x) (fun x => by rw [← e]; exact hQ x)
    exact ⟨K', fin K' fun x => by rw [h, ← e]⟩
  · obtain ⟨K', h⟩ := gauss2_nat hg n.natAbs (by omega) (psc (-1) K) P Q (fun x => by rw [ev_psc]; have := hP x; rw [e] at this; grind) (fun x => by rw [ev_psc]; have := hQ x; rw [e] at this; grind)
    refine ⟨K', fin K' fun x => ?_⟩
    have := h x
    rw [ev_psc] at this
    rw [e]; grind
/-- the usual form: a divisor without content divides over the integers what it divides -/
theorem gauss {g K P : List Int} {n : Int} (hg : ct g = 1) (hn : n ≠ 0) (hP : ∀ x, n * ev P x = ev g x * ev K x) : ∃ K', ∀ x, ev P x = ev g x * ev K' x := by
  obtain ⟨K', h, _⟩ := gauss2 (t := g) (b := g) (by rw [hg]; rfl) hn hP hP
  exact ⟨K', h⟩

/-! the form of a function -/
abbrev Fn := List Int × List Int
structure Can (f : Fn) : Prop where
  tt : Trim f.1
  tb : Trim f.2
  ne : f.2 ≠ []
  pos : 0 < lead f.2
  one : Nat.gcd (ct f.1) (ct f.2) = 1
  bez : ∃ (u v : List Int) (n : Int), n ≠ 0 ∧ ∀ x, ev u x * ev f.1 x + ev v x * ev f.2 x = n
theorem Can.low {f : Fn} (h : Can f) {P Q : List Int} (e : ∀ x, ev f.1 x * ev Q x = ev P x * ev f.2 x) : ∃ K, (∀ x, ev P x = ev f.1 x * ev K x) ∧ ∀ x, ev Q x = ev f.2 x * ev K x := by
  obtain ⟨u, v, n, hn, hb⟩ := h.bez
  refine gauss2 (K := padd (pmul u P) (pmul v Q)) h.one hn (fun x => ?_) (fun x => ?_)
  · rw [ev_padd, ev_pmul, ev_pmul]; have := e x; have := hb x; grind
  · rw [ev_padd, ev_pmul, ev_pmul]; have := e x; have := hb x; grind
theorem psc_lead (c : Int) (p : List Int) : lead (psc c p) = c * lead p := by
  unfold lead; rw [length_psc, cf_psc]
theorem Trim.psc {c : Int} {p : List Int} (h : Trim p) (hc : c ≠ 0) : Trim (PQ.psc c p) := fun hp => by
  rw [psc_lead]
  intro e
  rcases Int.mul_eq_zero.mp e with z | z
  · exact hc z
  · exact h (fun q => hp (by rw [q]; rfl)) z
theorem trim_ne {p : List Int} {y : Int} (h : ev p y ≠ 0) : trim p ≠ [] := fun e => h (by rw [← ev_trim, e]; rfl)
theorem Can.uniq {f g : Fn} (hf : Can f) (hg : Can g) (e : ∀ x, ev f.1 x * ev g.2 x = ev g.1 x * ev f.2 x) : f = g := by
  obtain ⟨K, hK1, hK2⟩ := hf.low (P := g.1) (Q := g.2) e
  obtain ⟨L, hL1, hL2⟩ := hg.low (P := f.1) (Q := f.2) (fun x => (e x).symm)
  -- lengths of the bottoms
  have len : ∀ {f g : Fn} {K : List Int}, Can f → Can g → (∀ x, ev g.2 x = ev f.2 x * ev K x) → g.2 = pmul f.2 (trim K) ∧ trim K ≠ [] := by
    intro f g K hf hg h
    obtain ⟨y, hy⟩ := exists_ne hg.ne hg.tb
    have hk : trim K ≠ [] := trim_ne (y := y) fun z => hy (by rw [h, z]; simp)
    exact ⟨trim_inj hg.tb (hf.tb.pmul (trim_ok K) hf.ne hk) (N := 0) (fun x _ => by rw [ev_pmul, ev_trim]; exact h x), hk⟩
  obtain ⟨b1, b2⟩ := len hf hg hK2
  obtain ⟨c1, c2⟩ := len hg hf hL2
  have l1 := congrArg List.length b1
  have l2 := congrArg List.length c1
  rw [length_pmul _ _ hf.ne b2] at l1
  rw [length_pmul _ _ hg.ne c2] at l2
  have p1 := List.length_pos_iff.mpr b2
  have p2 := List.length_pos_iff.mpr c2
  have p3 := List.length_pos_iff.mpr hf.ne
  obtain ⟨c, hc⟩ : ∃ c, trim K = [c] := List.length_eq_one_iff.mp (by omega)
  have eK : ∀ x, ev K x = c := fun x => by rw [← ev_trim, hc]; simp
  have hc0 : c ≠ 0 := by
    have := trim_ok K b2
    rw [hc] at this
    simpa using this
  have e2 : g.2 = psc c f.2 := trim_inj hg.tb (hf.tb.psc hc0) (N := 0) fun x _ => by rw [ev_psc, hK2, eK]; grind
  have e1 : g.1 = psc c f.1 := trim_inj hg.tt (hf.tt.psc hc0) (N := 0) fun x _ => by rw [ev_psc, hK1, eK]; grind
  have g1 := hg.one
  rw [e1, e2, ct_psc, ct_psc, Nat.gcd_mul_left, hf.one] at g1
  have g2 := hg.pos
  rw [e2, psc_lead] at g2
  have hc1 : c = 1 := by
    have h1 := hf.pos
    have h2 : c.natAbs = 1 := by omega
    rcases Int.natAbs_eq c with h | h
    · rw [h2] at h; exact h
    · rw [h2] at h; rw [h] at g2; omega
  subst hc1
  have f1 : ∀ p : List Int, psc 1 p = p := fun p => by simp [psc]
  rw [f1] at e1 e2
  exact Prod.ext e1.symm e2.symm
end PQ
end
section
set_option autoImplicit false
namespace PQ
theorem length_trim_le {p : List Int} {m : Nat} (h : ∀ i, m ≤ i → cf p i = 0) : (trim p).length ≤ m := by
  obtain ⟨k, h1, h2, h3, h4⟩ := trim_take p
  rw [h2, List.length_take]
  rcases h4 with e | e
  · omega
  · have : k - 1 < m := Nat.lt_of_not_le fun q => e (h _ q)
    omega
/-! the primitive part -/
def pfac (p : List Int) : Int := if lead p < 0 then -(ct p : Int) else ct p
def prim (p : List Int) : List Int := dv p (pfac p)
theorem pfac_ne {p : List Int} (hp : p ≠ []) (ht : Trim p) : pfac p ≠ 0 := by
  have := ct_pos hp ht
  unfold pfac; split <;> omega
theorem pfac_dvd {p : List Int} : ∀ c ∈ p, pfac p ∣ c := fun c hc => by
  unfold pfac; split
  · exact Int.neg_dvd.mpr (ct_dvd hc)
  · exact ct_dvd hc
theorem prim_eq (p : List Int) : psc (pfac p) (prim p) = p := dv_ok pfac_dvd
theorem Trim.of_psc {c : Int} {p : List Int} (h : Trim (PQ.psc c p)) : Trim p := fun hp e => by
  refine h (fun q => hp (by simpa [PQ.psc] using q)) ?_
  rw [psc_lead, e, Int.mul_zero]
theorem prim_trim {p : List Int} (ht : Trim p) : Trim (prim p) := Trim.of_psc (c := pfac p) (by rw [prim_eq]; exact ht)
theorem prim_lead {p : List Int} (hp : p ≠ []) (ht : Trim p) : 0 < lead (prim p) := by
  have h1 := psc_lead (pfac p) (prim p)
  rw [prim_eq] at h1
  have h2 := ct_pos hp ht
  have h3 := ht hp
  have h4 : pfac p * lead (prim p) = lead p := h1.symm
  apply Int.lt_of_not_ge
  intro h5
  unfold pfac at h4
  split at h4
  · rename_i hl
    have : 0 ≤ -(ct p : Int) * lead (prim p) := Int.mul_nonneg_of_nonpos_of_nonpos (by omega) h5
    omega
  · have : (ct p : Int) * lead (prim p) ≤ 0 := Int.mul_nonpos_of_nonneg_of_nonpos (by omega) h5
    omega
theorem prim_ct {p : List Int} (hp : p ≠ []) (ht : Trim p) : ct (prim p) = 1 := by
  have h := ct_psc (pfac p) (prim p)
  rw [prim_eq] at h
  have h2 := ct_pos hp ht
  have h3 : (pfac p).natAbs = ct p := by unfold pfac; split <;> omega
  rw [h3] at h
  have : ct p * ct (prim p) = ct p * 1 := by omega
  exact Nat.eq_of_mul_eq_mul_left h2 this
theorem n1_of_psc {c : Int} {p : List Int} (hc : c ≠ 0) : n1 p ≤ n1 (psc c p) := by
  rw [n1_psc]
  exact Nat.le_mul_of_pos_left _ (by omega)
theorem prim_n1 {p : List Int} (hp : p ≠ []) (ht : Trim p) : n1 (prim p) ≤ n1 p := by
  have := n1_of_psc (p := prim p) (pfac_ne hp ht)
  rwa [prim_eq] at this
theorem prim_length (p : List Int) : (prim p).length = p.length := length_dv _ _
theorem prim_ev (p : List Int) (x : Int) : ev p x = pfac p * ev (prim p) x := by rw [← ev_psc, prim_eq]

/-! one step of the pseudo-division -/
theorem rem_step {rest other r : List Int} {f : Int} (hr : rest ≠ []) (ho : other ≠ []) (hl : other.length ≤ rest.length) (hf : f * lead other = ((lead other).natAbs : Int) * lead rest) (hfa : f.natAbs = (lead rest).natAbs)
    (er : r = trim (padd (psc ((lead other).natAbs : Int) rest) (psc (-f) (psh (rest.length - other.length) other)))) :
    Trim r ∧ r.length < rest.length ∧ n1 r ≤ 2 * (n1 rest * n1 other) ∧ ∀ x, ev r x = ((lead other).natAbs : Int) * ev rest x - f * x ^ (rest.length - other.length) * ev other x := by
  have p1 := List.length_pos_iff.mpr hr
  have p2 := List.length_pos_iff.mpr ho
  subst er
  refine ⟨trim_ok _, ?_, ?_, fun x => ?_⟩
  · have : (trim (padd (psc ((lead other).natAbs : Int) rest) (psc (-f) (psh (rest.length - other.length) other)))).length ≤ rest.length - 1 := by
      refine length_trim_le fun i hi => ?_
      rw [cf_padd, cf_psc, cf_psc, cf_psh, if_neg (by omega)]
      by_cases h : i = rest.length - 1
      · subst h
        have e1 : rest.length - 1 - (rest.length - other.length) = other.length - 1 := by omega
        rw [e1]
        show ((lead other).natAbs : Int) * lead rest + -f * lead other = 0
        rw [← hf]; grind
      · rw [cf_ge (p := rest) (by omega), cf_ge (p := other) (by omega)]; simp
    omega
  · rw [n1_trim]
    refine Nat.le_trans (n1_padd _ _) ?_
    rw [n1_psc, n1_psc, n1_psh, Int.natAbs_neg, hfa]
    have h1 : (lead other).natAbs ≤ n1 other := cf_le_n1 _ _
    have h2 : (lead rest).natAbs ≤ n1 rest := cf_le_n1 _ _
    have h3 := Nat.mul_le_mul_right (n1 rest) h1
    have h4 := Nat.mul_le_mul_right (n1 other) h2
    rw [Int.natAbs_natCast]
    have h5 : n1 other * n1 rest = n1 rest * n1 other := Nat.mul_comm _ _
    omega
  · rw [ev_trim, ev_padd, ev_psc, ev_psc, ev_psh]; grind

/-! the ideal -/
def QD (g p : List Int) : Prop := ∃ (k : Int) (α : List Int), k ≠ 0 ∧ ∀ x, k * ev p x = ev α x * ev g x
def Lin (a b p : List Int) : Prop := ∃ (n : Int) (u v : List Int), n ≠ 0 ∧ ∀ x, n * ev p x = ev u x * ev a x + ev v x * ev b x
/-- what a remainder is -/
def Rem (o h r : List Int) : Prop := ∃ (m c : Int) (w : List Int), m ≠ 0 ∧ c ≠ 0 ∧ ∀ x, m * ev o x = ev w x * ev h x + c * ev r x
structure CI (a b o h : List Int) : Prop where
  to : Trim o
  th : Trim h
  ne : o ≠ []
  lo : Lin a b o
  lh : Lin a b h
  dv : ∀ g, QD g o → QD g h → QD g a ∧ QD g b
theorem mul_ne {a b : Int} (ha : a ≠ 0) (hb : b ≠ 0) : a * b ≠ 0 := fun h => (Int.mul_eq_zero.mp h).elim ha hb
theorem Lin.left (a b : List Int) : Lin a b a := ⟨1, [1], [], by decide, fun x => by simp⟩
theorem Lin.right (a b : List Int) : Lin a b b := ⟨1, [], [1], by decide, fun x => by simp⟩
theorem CI.start {a b : List Int} (ta : Trim a) (tb : Trim b) (ha : a ≠ []) : CI a b a b := ⟨ta, tb, ha, Lin.left a b, Lin.right a b, fun _ h1 h2 => ⟨h1, h2⟩⟩
theorem CI.step {a b o h r : List Int} (I : CI a b o h) (hh : h ≠ []) (tr : Trim r) (R : Rem o h r) : CI a b h r := by
  obtain ⟨m, c, w, hm, hc, e⟩ := R
  refine ⟨I.th, tr, hh, I.lh, ?_, fun g q1 q2 => I.dv g ?_ q1⟩
  · obtain ⟨n1, u1, v1, h1, e1⟩ := I.lo
    obtain ⟨n2, u2, v2, h2, e2⟩ := I.lh
    refine ⟨n1 * n2 * c, padd (psc (m * n2) u1) (pmul (psc (-n1) w) u2), padd (psc (m * n2) v1) (pmul (psc (-n1) w) v2), mul_ne (mul_ne h1 h2) hc, fun x => ?_⟩
    rw [ev_padd, ev_padd, ev_pmul, ev_pmul, ev_psc, ev_psc, ev_psc]
    have := e x; have := e1 x; have := e2 x
    grind
  · obtain ⟨k1, α1, h1, e1⟩ := q1
    obtain ⟨k2, α2, h2, e2⟩ := q2
    refine ⟨k1 * k2 * m, padd (pmul (psc k2 w) α1) (psc (c * k1) α2), mul_ne (mul_ne h1 h2) hm, fun x => ?_⟩
    rw [ev_padd, ev_pmul, ev_psc, ev_psc]
    have := e x; have := e1 x; have := e2 x
    grind
/-- the greatest common divisor -/
structure GC (a b g : List Int) : Prop where
  tg : Trim g
  ne : g ≠ []
  pos : 0 < lead g
  one : ct g = 1
  da : ∃ K, ∀ x, ev a x = ev g x * ev K x
  db : ∃ K, ∀ x, ev b x = ev g x * ev K x
  lin : Lin a b g
theorem CI.done {a b o : List Int} (I : CI a b o []) : GC a b (prim o) := by
  have hne : prim o ≠ [] := fun e => I.ne (List.length_eq_zero_iff.mp (by rw [← prim_length, e]; rfl))
  have hq : QD (prim o) o := ⟨1, [pfac o], by decide, fun x => by rw [prim_ev o x]; simp⟩
  have hz : QD (prim o) [] := ⟨1, [], by decide, fun x => by simp⟩
  obtain ⟨⟨k1, α1, h1, e1⟩, k2, α2, h2, e2⟩ := I.dv _ hq hz
  refine ⟨prim_trim I.to, hne, prim_lead I.ne I.to, prim_ct I.ne I.to, gauss (prim_ct I.ne I.to) h1 (K := α1) (fun x => by rw [e1]; grind), gauss (prim_ct I.ne I.to) h2 (K := α2) (fun x => by rw [e2]; grind), ?_⟩
  obtain ⟨n, u, v, hn, e⟩ := I.lo
  exact ⟨n * pfac o, u, v, mul_ne hn (pfac_ne I.ne I.to), fun x => by rw [← e x, prim_ev o x]; grind⟩

/-! the form -/
theorem made_can {a b g w1 w2 : List Int} {f : Int} (ha : a ≠ []) (hb : b ≠ []) (ta : Trim a) (tb : Trim b) (G : GC a b g) (t1 : Trim w1) (t2 : Trim w2) (e1 : ∀ x, ev a x = ev g x * ev w1 x) (e2 : ∀ x, ev b x = ev g x * ev w2 x)
    (hf : f = if lead w2 < 0 then -((Nat.gcd (ct w1) (ct w2) : Nat) : Int) else ((Nat.gcd (ct w1) (ct w2) : Nat) : Int)) :
    f ≠ 0 ∧ psc f (dv w1 f) = w1 ∧ psc f (dv w2 f) = w2 ∧ Can (dv w1 f, dv w2 f) ∧ ∀ x, ev (dv w1 f) x * ev b x = ev a x * ev (dv w2 f) x := by
  have ne1 : w1 ≠ [] := fun z => by
    obtain ⟨y, hy⟩ := exists_ne ha ta
    exact hy (by rw [e1, z]; simp)
  have ne2 : w2 ≠ [] := fun z => by
    obtain ⟨y, hy⟩ := exists_ne hb tb
    exact hy (by rw [e2, z]; simp)
  have c1 := ct_pos ne1 t1
  have c2 := ct_pos ne2 t2
  have c3 : 0 < Nat.gcd (ct w1) (ct w2) := Nat.gcd_pos_of_pos_left _ c1
  have hf0 : f ≠ 0 := by rw [hf]; split <;> omega
  have hfa : f.natAbs = Nat.gcd (ct w1) (ct w2) := by rw [hf]; split <;> omega
  have d1 : psc f (dv w1 f) = w1 := dv_ok fun c hc => by
    have h : (f.natAbs : Int) ∣ c := by rw [hfa]; exact Int.dvd_trans (Int.ofNat_dvd.mpr (Nat.gcd_dvd_left _ _)) (ct_dvd hc)
    exact Int.natAbs_dvd.mp h
  have d2 : psc f (dv w2 f) = w2 := dv_ok fun c hc => by
    have h : (f.natAbs : Int) ∣ c := by rw [hfa]; exact Int.dvd_trans (Int.ofNat_dvd.mpr (Nat.gcd_dvd_right _ _)) (ct_dvd hc)
    exact Int.natAbs_dvd.mp h
  have v1 : ∀ x, ev w1 x = f * ev (dv w1 f) x := fun x => by rw [← ev_psc, d1]
  have v2 : ∀ x, ev w2 x = f * ev (dv w2 f) x := fun x => by rw [← ev_psc, d2]
  refine ⟨hf0, d1, d2, ⟨Trim.of_psc (c := f) (by rw [d1]; exact t1), Trim.of_psc (c := f) (by rw [d2]; exact t2), fun z => ne2 (by rw [← d2]; show psc f (dv w2 f) = []; rw [show dv w2 f = [] from z]; rfl), ?_, ?_, ?_⟩, fun x => by rw [e1, e2, v1, v2]; grind⟩
  · have h1 := psc_lead f (dv w2 f)
    rw [d2] at h1
    apply Int.lt_of_not_ge
    intro h5
    have h5' : lead (dv w2 f) ≤ 0 := h5
    have h3 := t2 ne2
    by_cases hl : lead w2 < 0
    · have h7 : f ≤ 0 := by rw [hf, if_pos hl]; omega
      have : 0 ≤ f * lead (dv w2 f) := Int.mul_nonneg_of_nonpos_of_nonpos h7 h5'
      omega
    · have h7 : 0 ≤ f := by rw [hf, if_neg hl]; omega
      have : f * lead (dv w2 f) ≤ 0 := Int.mul_nonpos_of_nonneg_of_nonpos h7 h5'
      omega
  · have h1 := ct_psc f (dv w1 f)
    have h2 := ct_psc f (dv w2 f)
    rw [d1] at h1
    rw [d2] at h2
    have h3 : Nat.gcd (ct w1) (ct w2) = f.natAbs * Nat.gcd (ct (dv w1 f)) (ct (dv w2 f)) := by rw [h1, h2, Nat.gcd_mul_left]
    rw [← hfa] at h3
    have : f.natAbs * Nat.gcd (ct (dv w1 f)) (ct (dv w2 f)) = f.natAbs * 1 := by omega
    exact Nat.eq_of_mul_eq_mul_left (by omega) this
  · obtain ⟨n, u, v, hn, e⟩ := G.lin
    have hs : ∀ x, f * ev (padd (pmul u (dv w1 f)) (pmul v (dv w2 f))) x = n := fun x => by
      have h := ev_cancel (g := g) (p := psc f (padd (pmul u (dv w1 f)) (pmul v (dv w2 f)))) (q := [n]) (exists_ne G.ne G.tg) (fun x => by
        rw [ev_psc, ev_padd, ev_pmul, ev_pmul]
        have h1 := e x
        rw [e1, e2, v1, v2] at h1
        simp; grind) x
      rw [ev_psc] at h
      rw [h]; simp
    refine ⟨u, v, ev (padd (pmul u (dv w1 f)) (pmul v (dv w2 f))) 0, fun z => hn (by rw [← hs 0, z]; simp), fun x => ?_⟩
    have h1 := hs x
    have h2 := hs 0
    rw [← ev_pmul, ← ev_pmul, ← ev_padd]
    exact Int.eq_of_mul_eq_mul_left hf0 (h1.trans h2.symm)

/-! ZERO -/
theorem can_zero : Can ([], [1]) := ⟨Trim.nil, fun _ => by simp, by simp, by simp, rfl, [], [1], 1, by decide, fun x => by simp⟩
theorem Can.zero_of {f : Fn} (h : Can f) (e : f.1 = []) : f = ([], [1]) := h.uniq can_zero fun x => by rw [e]; simp

/-! the cofactors -/
theorem GC.fst {a b g : List Int} (G : GC a b g) (ha : a ≠ []) (ta : Trim a) : ∃ w, Trim w ∧ w ≠ [] ∧ a = pmul g w ∧ ∀ x, ev a x = ev g x * ev w x := by
  obtain ⟨K, h⟩ := G.da
  obtain ⟨y, hy⟩ := exists_ne ha ta
  have hk : trim K ≠ [] := trim_ne (y := y) fun z => hy (by rw [h, z]; simp)
  exact ⟨trim K, trim_ok K, hk, trim_inj ta (G.tg.pmul (trim_ok K) G.ne hk) (N := 0) (fun x _ => by rw [ev_pmul, ev_trim]; exact h x), fun x => by rw [ev_trim]; exact h x⟩
theorem GC.snd {a b g : List Int} (G : GC a b g) (hb : b ≠ []) (tb : Trim b) : ∃ w, Trim w ∧ w ≠ [] ∧ b = pmul g w ∧ ∀ x, ev b x = ev g x * ev w x := by
  obtain ⟨K, h⟩ := G.db
  obtain ⟨y, hy⟩ := exists_ne hb tb
  have hk : trim K ≠ [] := trim_ne (y := y) fun z => hy (by rw [h, z]; simp)
  exact ⟨trim K, trim_ok K, hk, trim_inj tb (G.tg.pmul (trim_ok K) G.ne hk) (N := 0) (fun x _ => by rw [ev_pmul, ev_trim]; exact h x), fun x => by rw [ev_trim]; exact h x⟩
end PQ
end
section
set_option autoImplicit false
namespace PQ
/-! division by x - j -/
def sd (j : Int) : List Int → List Int
  | [] => []
  | _ :: p => padd p (psc j (sd j p))
theorem length_sd (j : Int) (p : List Int) : (sd j p).length = p.length - 1 := by
  induction p with
  | nil => rfl
  | cons a p ih => show (padd p (psc j (sd j p))).length = _; rw [length_padd, length_psc, ih]; simp only [List.length_cons]; omega
theorem ev_sd (j : Int) (p : List Int) (x : Int) : (x - j) * ev (sd j p) x = ev p x - ev p j := by
  induction p with
  | nil => show (x - j) * ev [] x = _; simp
  | cons a p ih => show (x - j) * ev (padd p (psc j (sd j p))) x = _; rw [ev_padd, ev_psc, ev_cons, ev_cons]; grind
/-- bounded at sufficiently many places: bounded coefficients -/
theorem n1_of_values {J : Nat} : ∀ (m : Nat) (t : List Int) (js : List Int) (V : Nat), t.length ≤ m + 1 → m + 1 ≤ js.length → js.Nodup → (∀ j ∈ js, 0 ≤ j ∧ j ≤ J ∧ (ev t j).natAbs ≤ V) → n1 t ≤ V * (2 * J + 3) ^ m := by
  intro m
  induction m with
  | zero =>
    intro t js V h1 h2 _ h3
    cases js with
    | nil => simp at h2
    | cons j js =>
      cases t with
      | nil => simp
      | cons a t =>
        have : t = [] := List.length_eq_zero_iff.mp (by simp only [List.length_cons] at h1; omega)
        subst this
        have := (h3 j (by simp)).2.2
        simpa using this
  | succ m ih =>
    intro t js V h1 h2 hn h3
    cases js with
    | nil => simp at h2
    | cons j js =>
      have hj := h3 j (by simp)
      have hnj := List.nodup_cons.mp hn
      have ih' := ih (sd j t) js (2 * V) (by rw [length_sd]; omega) (by simp at h2; omega) hnj.2 (fun i hi => by
        have hi' := h3 i (by simp [hi])
        refine ⟨hi'.1, hi'.2.1, ?_⟩
        have hij : i - j ≠ 0 := fun e => hnj.1 (by have : i = j := by omega
                                                   rw [← this]; exact hi)
        have e1 := congrArg Int.natAbs (ev_sd j t i)
        rw [Int.natAbs_mul] at e1
        have h4 : 1 * (ev (sd j t) i).natAbs ≤ (i - j).natAbs * (ev (sd j t) i).natAbs := Nat.mul_le_mul_right _ (by omega)
        have := hj.2.2
        have := hi'.2.2
        omega)
      have e : ∀ x, ev t x = ev (padd [ev t j] (padd (0 :: sd j t) (psc (-j) (sd j t)))) x := fun x => by
        rw [ev_padd, ev_padd, ev_psc, ev_cons, ev_cons, ev_nil]
        have := ev_sd j t x
        grind
      have e2 : trim t = trim (padd [ev t j] (padd (0 :: sd j t) (psc (-j) (sd j t)))) := trim_inj (trim_ok _) (trim_ok _) (N := 0) fun x _ => by rw [ev_trim, ev_trim]; exact e x
      have e3 := congrArg n1 e2
      rw [n1_trim, n1_trim] at e3
      have b1 := n1_padd [ev t j] (padd (0 :: sd j t) (psc (-j) (sd j t)))
      have b2 := n1_padd (0 :: sd j t) (psc (-j) (sd j t))
      rw [n1_psc] at b2
      have b3 : (-j).natAbs * n1 (sd j t) ≤ J * n1 (sd j t) := Nat.mul_le_mul_right _ (by omega)
      simp only [n1_cons, n1_nil] at b1 b2
      have b4 := hj.2.2
      have b5 : n1 t ≤ V + (n1 (sd j t) + J * n1 (sd j t)) := by rw [show (0 : Int).natAbs = 0 from rfl] at b2; omega
      have b6 : n1 (sd j t) + J * n1 (sd j t) = (1 + J) * n1 (sd j t) := by rw [Nat.add_mul]; omega
      have b7 : (1 + J) * n1 (sd j t) ≤ (1 + J) * (2 * V * (2 * J + 3) ^ m) := Nat.mul_le_mul_left _ ih'
      have b8 : V ≤ V * (2 * J + 3) ^ m := Nat.le_mul_of_pos_right _ (Nat.pow_pos (by omega))
      have b9 : V * (2 * J + 3) ^ (m + 1) = V * (2 * J + 3) ^ m + (1 + J) * (2 * V * (2 * J + 3) ^ m) := by
        rw [Nat.pow_succ]; generalize (2 * J + 3) ^ m = X
        grind
      omega
/-- roots -/
theorem roots_le : ∀ (n : Nat) (p : List Int) (rs : List Int), p.length ≤ n + 1 → (∃ y, ev p y ≠ 0) → rs.Nodup → (∀ r ∈ rs, ev p r = 0) → rs.length ≤ n := by
  intro n
  induction n with
  | zero =>
    intro p rs h1 ⟨y, hy⟩ _ h2
    cases rs with
    | nil => simp
    | cons r rs =>
      exfalso
      have hr := h2 r (by simp)
      cases p with
      | nil => exact hy rfl
      | cons a p =>
        have : p = [] := List.length_eq_zero_iff.mp (by simp only [List.length_cons] at h1; omega)
        subst this
        simp at hr hy
        exact hy hr
  | succ n ih =>
    intro p rs h1 ⟨y, hy⟩ hn h2
    cases rs with
    | nil => simp
    | cons r rs =>
      have hnr := List.nodup_cons.mp hn
      have hr := h2 r (by simp)
      have := ih (sd r p) rs (by rw [length_sd]; omega) ⟨y, fun e => hy (by have := ev_sd r p y; rw [e, hr] at this; simp at this; omega)⟩ hnr.2 (fun i hi => by
        have e := ev_sd r p i
        rw [h2 i (by simp [hi]), hr] at e
        rcases Int.mul_eq_zero.mp (e.trans (by omega)) with z | z
        · exact absurd (show i = r by omega) fun q => hnr.1 (by rw [← q]; exact hi)
        · exact z)
      simp; omega
def places (d : Nat) : List Int := (List.range (2 * d + 1)).map Int.ofNat
theorem places_nodup (d : Nat) : (places d).Nodup := by
  unfold places
  refine List.Pairwise.map _ (fun a b h => ?_) List.nodup_range
  intro e; exact h (Int.ofNat.inj e)
theorem filter_split {α : Type} (p : α → Bool) (l : List α) : (l.filter p).length + (l.filter (fun a => !p a)).length = l.length := by
  induction l with
  | nil => rfl
  | cons a l ih => by_cases h : p a = true <;> simp [h] <;> omega
/-- values -/
theorem ev_le {p : List Int} {d : Nat} (h : p.length ≤ d + 1) {x : Int} {X : Nat} (hx : x.natAbs ≤ X) (hX : 1 ≤ X) : (ev p x).natAbs ≤ n1 p * X ^ d := by
  induction p generalizing d with
  | nil => simp
  | cons a p ih =>
    cases d with
    | zero =>
      have : p = [] := List.length_eq_zero_iff.mp (by simp only [List.length_cons] at h; omega)
      subst this
      simp
    | succ d =>
      have ih' := ih (d := d) (by simp at h; omega)
      rw [ev_cons]
      have h1 := Int.natAbs_add_le a (x * ev p x)
      rw [Int.natAbs_mul] at h1
      have h2 : x.natAbs * (ev p x).natAbs ≤ X * (n1 p * X ^ d) := Nat.mul_le_mul hx ih'
      have h3 : X * (n1 p * X ^ d) = n1 p * X ^ (d + 1) := by rw [Nat.pow_succ]; generalize X ^ d = Y; grind
      have h4 : a.natAbs ≤ a.natAbs * X ^ (d + 1) := Nat.le_mul_of_pos_right _ (Nat.pow_pos (by omega))
      rw [n1_cons, Nat.add_mul]; omega
/-- the size of a divisor -/
def kap (d : Nat) : Nat := ((2 * d + 1) * (4 * d + 3)) ^ d
theorem divisor_le {P t k : List Int} {d : Nat} (h : ∀ x, ev P x = ev t x * ev k x) (hP : ∃ y, ev P y ≠ 0) (ht : Trim t) (hl : P.length ≤ d + 1) : t.length ≤ d + 1 ∧ n1 t ≤ n1 P * kap d := by
  obtain ⟨y, hy⟩ := hP
  have hk : trim k ≠ [] := trim_ne (y := y) fun z => hy (by rw [h, z]; simp)
  have htn : t ≠ [] := fun z => hy (by rw [h, z]; simp)
  have e : trim P = pmul t (trim k) := trim_inj (trim_ok _) (ht.pmul (trim_ok k) htn hk) (N := 0) fun x _ => by rw [ev_pmul, ev_trim, ev_trim]; exact h x
  have hlen : t.length ≤ d + 1 := by
    have h1 := congrArg List.length e
    rw [length_pmul _ _ htn hk] at h1
    have h2 := length_trim P
    have h3 := List.length_pos_iff.mpr hk
    omega
  refine ⟨hlen, ?_⟩
  have hr := roots_le d P ((places d).filter fun j => !(ev P j != 0)) hl ⟨y, hy⟩ ((places_nodup d).filter _) (fun r hr => by
    have := (List.mem_filter.mp hr).2
    simpa using this)
  have hs := filter_split (fun j => ev P j != 0) (places d)
  have hp : (places d).length = 2 * d + 1 := by simp [places]
  have := n1_of_values (J := 2 * d) d t ((places d).filter fun j => ev P j != 0) (n1 P * (2 * d + 1) ^ d) hlen (by omega) ((places_nodup d).filter _) (fun j hj => by
    obtain ⟨hj1, hj2⟩ := List.mem_filter.mp hj
    obtain ⟨i, hi, rfl⟩ := List.mem_map.mp hj1
    have hi' := List.mem_range.mp hi
    have hj2' : ev P (Int.ofNat i) ≠ 0 := by simpa using hj2
    refine ⟨by simp, by simp; omega, ?_⟩
    have h1 := ev_le (p := P) (d := d) hl (x := Int.ofNat i) (X := 2 * d + 1) (by simp; omega) (by omega)
    have h2 := congrArg Int.natAbs (h (Int.ofNat i))
    rw [Int.natAbs_mul] at h2
    have h3 : (ev k (Int.ofNat i)).natAbs ≠ 0 := fun z => hj2' (by rw [h, Int.natAbs_eq_zero.mp z]; simp)
    have h4 : (ev t (Int.ofNat i)).natAbs * 1 ≤ (ev t (Int.ofNat i)).natAbs * (ev k (Int.ofNat i)).natAbs := Nat.mul_le_mul_left _ (by omega)
    omega)
  have e2 : n1 P * (2 * d + 1) ^ d * (2 * (2 * d) + 3) ^ d = n1 P * kap d := by
    unfold kap; rw [Nat.mul_pow, Nat.mul_assoc, show 2 * (2 * d) + 3 = 4 * d + 3 by omega]
  rw [e2] at this
  exact this
/-- a function in its form is no greater than any of its quotients -/
theorem Can.le {f : Fn} (hf : Can f) {P Q : List Int} {d B : Nat} (hQ : ∃ y, ev Q y ≠ 0) (e : ∀ x, ev f.1 x * ev Q x = ev P x * ev f.2 x) (lP : P.length ≤ d + 1) (lQ : Q.length ≤ d + 1) (bP : n1 P ≤ B) (bQ : n1 Q ≤ B) :
    f.1.length ≤ d + 1 ∧ f.2.length ≤ d + 1 ∧ n1 f.1 ≤ B * kap d ∧ n1 f.2 ≤ B * kap d := by
  obtain ⟨K, hK1, hK2⟩ := hf.low e
  have k0 : 0 < kap d := Nat.pow_pos (Nat.mul_pos (by omega) (by omega))
  have h2 := divisor_le hK2 hQ hf.tb lQ
  have h2' : n1 f.2 ≤ B * kap d := Nat.le_trans h2.2 (Nat.mul_le_mul_right _ bQ)
  by_cases h : ∃ y, ev P y ≠ 0
  · have h1 := divisor_le hK1 h hf.tt lP
    exact ⟨h1.1, h2.1, Nat.le_trans h1.2 (Nat.mul_le_mul_right _ bP), h2'⟩
  · have hz : f.1 = [] := by
      obtain ⟨y, hy⟩ := hQ
      refine Classical.byContradiction fun hne => h ?_
      have hk : ∃ y, ev K y ≠ 0 := ⟨y, fun z => hy (by rw [hK2, z]; simp)⟩
      obtain ⟨N1, _, h1⟩ := ev_ne_of hk.choose_spec
      obtain ⟨N2, _, h2⟩ := ev_ne hne hf.tt
      exact ⟨max N1 N2, by rw [hK1]; exact mul_ne (h2 _ (by omega)) (h1 _ (by omega))⟩
    rw [hz]
    exact ⟨by simp, h2.1, by simp, h2'⟩
end PQ
end
section
set_option autoImplicit false
namespace PQ
/-! germs: what holds for all great numbers -/
def Evt (φ : Int → Prop) : Prop := ∃ N : Int, ∀ x, N ≤ x → φ x
theorem Evt.and {φ ψ : Int → Prop} (h1 : Evt φ) (h2 : Evt ψ) : Evt fun x => φ x ∧ ψ x := by
  obtain ⟨N, a⟩ := h1
  obtain ⟨M, b⟩ := h2
  exact ⟨max N M, fun x hx => ⟨a x (by omega), b x (by omega)⟩⟩
theorem Evt.mono {φ ψ : Int → Prop} (h1 : Evt φ) (h : ∀ x, φ x → ψ x) : Evt ψ := let ⟨N, a⟩ := h1; ⟨N, fun x hx => h x (a x hx)⟩
theorem Evt.all {φ : Int → Prop} (h : ∀ x, φ x) : Evt φ := ⟨0, fun x _ => h x⟩
theorem Evt.ge (M : Int) : Evt fun x => M ≤ x := ⟨M, fun _ h => h⟩
theorem Evt.ex {φ : Int → Prop} (h : Evt φ) : ∃ x, φ x := let ⟨N, a⟩ := h; ⟨N, a N (Int.le_refl _)⟩
def er (p : List Int) (x : Int) : Rat := ((ev p x : Int) : Rat)
theorem er_padd (p q : List Int) (x : Int) : er (padd p q) x = er p x + er q x := by simp [er, ev_padd]
theorem er_pmul (p q : List Int) (x : Int) : er (pmul p q) x = er p x * er q x := by simp [er, ev_pmul]
theorem er_psc (c : Int) (p : List Int) (x : Int) : er (psc c p) x = (c : Rat) * er p x := by simp [er, ev_psc]
theorem er_inj {p q : List Int} (h : Evt fun x => er p x = er q x) (x : Int) : ev p x = ev q x := by
  obtain ⟨N, a⟩ := h
  exact ev_all (N := N) (fun y hy => Rat.intCast_inj.mp (a y hy)) x
theorem er_ne {p : List Int} (h : ∃ y, ev p y ≠ 0) : Evt fun x => er p x ≠ 0 := by
  obtain ⟨y, hy⟩ := h
  obtain ⟨N, _, a⟩ := ev_ne_of hy
  exact ⟨N, fun x hx e => a x hx (Rat.intCast_eq_zero_iff.mp e)⟩
theorem er_ne' {p : List Int} (hp : p ≠ []) (ht : Trim p) : Evt fun x => er p x ≠ 0 := er_ne (exists_ne hp ht)
/-- f is the function r -/
structure Is (f : Fn) (r : Int → Rat) : Prop where
  can : Can f
  eq : Evt fun x => r x * er f.2 x = er f.1 x
/-- r is the quotient of P and Q -/
def Rp (r : Int → Rat) (P Q : List Int) : Prop := Evt fun x => er Q x ≠ 0 ∧ r x * er Q x = er P x
/-- what made gives -/
structure Made (P Q : List Int) (h : Fn) : Prop where
  can : Can h
  eq : ∀ x, ev h.1 x * ev Q x = ev P x * ev h.2 x
section
variable {f g h : Fn} {r s : Int → Rat} {P Q : List Int}
theorem Rp.ne (R : Rp r P Q) : ∃ y, ev Q y ≠ 0 := by
  obtain ⟨x, hx, _⟩ := R.ex
  exact ⟨x, fun e => hx (by unfold er; rw [e]; rfl)⟩
theorem Is.cross (I : Is f r) (R : Rp r P Q) (x : Int) : ev f.1 x * ev Q x = ev P x * ev f.2 x := by
  rw [← ev_pmul, ← ev_pmul]
  refine er_inj ((I.eq.and R).mono fun x hx => ?_) x
  obtain ⟨h1, h2, h3⟩ := hx
  rw [er_pmul, er_pmul]
  grind
theorem Is.made (I : Is f r) (R : Rp r P Q) : Made P Q f := ⟨I.can, I.cross R⟩
theorem Made.is (M : Made P Q h) (R : Rp r P Q) : Is h r := by
  refine ⟨M.can, R.mono fun x hx => ?_⟩
  obtain ⟨h1, h2⟩ := hx
  have h3 : er h.1 x * er Q x = er P x * er h.2 x := by
    have := M.eq x
    rw [← ev_pmul, ← ev_pmul] at this
    rw [← er_pmul, ← er_pmul]; unfold er; rw [this]
  grind
theorem Made.uniq {h' : Fn} (M : Made P Q h) (M' : Made P Q h') (hQ : ∃ y, ev Q y ≠ 0) : h = h' := by
  refine M.can.uniq M'.can fun x => ?_
  have := ev_cancel (g := Q) (p := pmul h.1 h'.2) (q := pmul h'.1 h.2) hQ (fun x => by
    rw [ev_pmul, ev_pmul]
    have := M.eq x; have := M'.eq x
    grind) x
  rwa [ev_pmul, ev_pmul] at this
theorem Is.ne2 (I : Is f r) : Evt fun x => er f.2 x ≠ 0 := er_ne' I.can.ne I.can.tb
theorem Is.uniq (I : Is f r) (J : Is g s) (e : Evt fun x => r x = s x) : f = g := by
  refine I.can.uniq J.can fun x => ?_
  rw [← ev_pmul, ← ev_pmul]
  refine er_inj ((I.eq.and (J.eq.and e)).mono fun x hx => ?_) x
  obtain ⟨h1, h2, h3⟩ := hx
  rw [er_pmul, er_pmul]
  grind
theorem Is.congr (I : Is f r) (e : Evt fun x => r x = s x) : Is f s := ⟨I.can, (I.eq.and e).mono fun x hx => by rw [← hx.2]; exact hx.1⟩
theorem Rp.congr (R : Rp r P Q) (e : Evt fun x => r x = s x) : Rp s P Q := (R.and e).mono fun x hx => by rw [← hx.2]; exact hx.1
theorem Is.rp (I : Is f r) : Rp r f.1 f.2 := (I.ne2.and I.eq)
theorem Is.mul (I : Is f r) (J : Is g s) : Rp (fun x => r x * s x) (pmul f.1 g.1) (pmul f.2 g.2) := (I.rp.and J.rp).mono fun x hx => by
  rw [er_pmul, er_pmul]; grind
theorem Is.add (I : Is f r) (J : Is g s) : Rp (fun x => r x + s x) (padd (pmul f.1 g.2) (pmul g.1 f.2)) (pmul f.2 g.2) := (I.rp.and J.rp).mono fun x hx => by
  rw [er_padd, er_pmul, er_pmul, er_pmul]; grind
theorem Is.sub (I : Is f r) (J : Is g s) : Rp (fun x => r x - s x) (padd (pmul f.1 g.2) (psc (-1) (pmul g.1 f.2))) (pmul f.2 g.2) := (I.rp.and J.rp).mono fun x hx => by
  rw [er_padd, er_psc, er_pmul, er_pmul, er_pmul]
  have : ((-1 : Int) : Rat) = -1 := rfl
  grind
theorem Is.ne1 (I : Is f r) (h : f ≠ ([], [1])) : f.1 ≠ [] := fun e => h (I.can.zero_of e)
theorem Is.ne (I : Is f r) (h : f ≠ ([], [1])) : Evt fun x => r x ≠ 0 := ((er_ne' (I.ne1 h) I.can.tt).and (I.ne2.and I.eq)).mono fun x hx => by grind
theorem Is.inv (I : Is f r) (h : f ≠ ([], [1])) : Rp (fun x => 1 / r x) f.2 f.1 := ((er_ne' (I.ne1 h) I.can.tt).and (I.ne2.and I.eq)).mono fun x hx => by
  obtain ⟨h1, h2, h3⟩ := hx
  have : r x ≠ 0 := by grind
  grind
theorem Is.zero (I : Is f r) (e : Evt fun x => r x = 0) : f = ([], [1]) := I.uniq (⟨can_zero, .all fun x => by show (0 : Rat) * _ = er [] x; simp [er]⟩ : Is ([], [1]) fun _ => 0) e
theorem Is.ne_of (I : Is f r) (e : Evt fun x => r x ≠ 0) : f ≠ ([], [1]) := fun z => by
  subst z
  obtain ⟨x, h1, h2⟩ := (I.eq.and e).ex
  apply h2
  simpa [er] using h1
theorem is_zero : Is ([], [1]) fun _ => 0 := ⟨can_zero, .all fun x => by simp [er]⟩
theorem can_one : Can ([1], [1]) := ⟨fun _ => by simp, fun _ => by simp, by simp, by simp, rfl, [], [1], 1, by decide, fun x => by simp⟩
theorem is_one : Is ([1], [1]) fun _ => 1 := ⟨can_one, .all fun x => by simp [er]⟩
/-- sizes -/
structure Sz (f : Fn) (d b : Nat) : Prop where
  l1 : f.1.length ≤ d + 1
  l2 : f.2.length ≤ d + 1
  b1 : n1 f.1 ≤ 2 ^ b
  b2 : n1 f.2 ≤ 2 ^ b
theorem Sz.mono {d b d' b' : Nat} (z : Sz f d b) (hd : d ≤ d') (hb : b ≤ b') : Sz f d' b' :=
  ⟨by have := z.l1; omega, by have := z.l2; omega, Nat.le_trans z.b1 (Nat.pow_le_pow_right (by decide) hb), Nat.le_trans z.b2 (Nat.pow_le_pow_right (by decide) hb)⟩
/-- a polynomial's size -/
structure Pz (p : List Int) (d B : Nat) : Prop where
  l : p.length ≤ d + 1
  b : n1 p ≤ B
theorem Pz.mul {p q : List Int} {d e B C : Nat} (h1 : Pz p d B) (h2 : Pz q e C) : Pz (pmul p q) (d + e) (B * C) := ⟨length_pmul_le h1.l h2.l, Nat.le_trans (n1_pmul p q) (Nat.mul_le_mul h1.b h2.b)⟩
theorem Pz.add {p q : List Int} {d e B C : Nat} (h1 : Pz p d B) (h2 : Pz q e C) : Pz (padd p q) (max d e) (B + C) := ⟨by have := h1.l; have := h2.l; rw [length_padd]; omega, Nat.le_trans (n1_padd p q) (Nat.add_le_add h1.b h2.b)⟩
theorem Pz.sc {p : List Int} {d B : Nat} (c : Int) (h1 : Pz p d B) : Pz (psc c p) d (c.natAbs * B) := ⟨by rw [length_psc]; exact h1.l, by rw [n1_psc]; exact Nat.mul_le_mul_left _ h1.b⟩
theorem Pz.mono {p : List Int} {d e B C : Nat} (h1 : Pz p d B) (hd : d ≤ e) (hb : B ≤ C) : Pz p e C := ⟨by have := h1.l; omega, Nat.le_trans h1.b hb⟩
theorem Is.sz {d B b : Nat} (I : Is f r) (R : Rp r P Q) (hP : Pz P d B) (hQ : Pz Q d B) (hb : B * kap d ≤ 2 ^ b) : Sz f d b := by
  obtain ⟨h1, h2, h3, h4⟩ := I.can.le R.ne (I.cross R) hP.l hQ.l hP.b hQ.b
  exact ⟨h1, h2, Nat.le_trans h3 hb, Nat.le_trans h4 hb⟩
end
end PQ
end
section
set_option autoImplicit false
namespace PQ
/-! bounds for the remainder sequence -/
theorem pow_le_a (d : Nat) (h : 1 ≤ d) : 5 * 2 ^ d ≤ 2 * 5 ^ d := by
  induction d with
  | zero => omega
  | succ d ih =>
    by_cases hd : d = 0
    · subst hd; decide
    · have := ih (by omega)
      rw [Nat.pow_succ, Nat.pow_succ]; omega
theorem pow_le_b (d : Nat) (h : 1 ≤ d) : (7 + 5 * d) * 2 ^ d ≤ 5 * 5 ^ d := by
  induction d with
  | zero => omega
  | succ d ih =>
    by_cases hd : d = 0
    · subst hd; decide
    · have h1 := ih (by omega)
      have h2 := pow_le_a d (by omega)
      rw [Nat.pow_succ, Nat.pow_succ]
      generalize 2 ^ d = A at *
      generalize 5 ^ d = B at *
      have e : (7 + 5 * (d + 1)) * (A * 2) = 2 * ((7 + 5 * d) * A) + 10 * A := by grind
      omega
theorem pow_le_c (d : Nat) (h : 1 ≤ d) : (25 + 5 * d) * 2 ^ d ≤ 12 * 5 ^ d := by
  induction d with
  | zero => omega
  | succ d ih =>
    by_cases hd : d = 0
    · subst hd; decide
    · have h1 := ih (by omega)
      have h2 := pow_le_a d (by omega)
      rw [Nat.pow_succ, Nat.pow_succ]
      generalize 2 ^ d = A at *
      generalize 5 ^ d = B at *
      have e : (25 + 5 * (d + 1)) * (A * 2) = 2 * ((25 + 5 * d) * A) + 10 * A := by grind
      omega
theorem phi_step {x y s d : Nat} (hs : s ≤ d + 1) (h : 1 ≤ d) : (2 * y + 5 * (x + s * (y + 1)) + 12) * 2 ^ d ≤ (2 * x + 5 * y + 12) * 5 ^ d := by
  have h1 := pow_le_a d h
  have h2 := pow_le_b d h
  have h3 := pow_le_c d h
  have h4 : s * (y + 1) ≤ (d + 1) * (y + 1) := Nat.mul_le_mul_right _ hs
  have h5 : (2 * y + 5 * (x + s * (y + 1)) + 12) * 2 ^ d ≤ (2 * y + 5 * (x + (d + 1) * (y + 1)) + 12) * 2 ^ d := Nat.mul_le_mul_right _ (by omega)
  refine Nat.le_trans h5 ?_
  generalize 2 ^ d = A at *
  generalize 5 ^ d = B at *
  have e1 : (2 * y + 5 * (x + (d + 1) * (y + 1)) + 12) * A = x * (5 * A) + y * ((7 + 5 * d) * A) + (17 + 5 * d) * A := by grind
  have e2 : (2 * x + 5 * y + 12) * B = x * (2 * B) + y * (5 * B) + 12 * B := by grind
  have g1 := Nat.mul_le_mul_left x h1
  have g2 := Nat.mul_le_mul_left y h2
  have g3 : (17 + 5 * d) * A ≤ (25 + 5 * d) * A := Nat.mul_le_mul_right _ (by omega)
  omega
/-- the place in the countdown -/
def ord (lo L : Nat) : Nat := if L < lo then lo else L + 1
/-- the bits of a pair of neighbours in the sequence -/
def Bits (o h : List Int) : Prop := ∃ x y : Nat, n1 o ≤ 2 ^ x ∧ n1 h ≤ 2 ^ y ∧ (2 * x + 5 * y + 12) * (5 ^ ord o.length h.length * 2 ^ (14 - ord o.length h.length)) ≤ 1412 * 5 ^ 14
theorem wts (L : Nat) (h1 : 1 ≤ L) (h2 : L ≤ 14) : 5 * 2 ^ 13 ≤ 5 ^ L * 2 ^ (14 - L) := by
  have : L = 1 ∨ L = 2 ∨ L = 3 ∨ L = 4 ∨ L = 5 ∨ L = 6 ∨ L = 7 ∨ L = 8 ∨ L = 9 ∨ L = 10 ∨ L = 11 ∨ L = 12 ∨ L = 13 ∨ L = 14 := by omega
  rcases this with rfl | rfl | rfl | rfl | rfl | rfl | rfl | rfl | rfl | rfl | rfl | rfl | rfl | rfl <;> decide
theorem Bits.start {a b : List Int} (la : a.length ≤ 13) (lb : b.length ≤ 13) (ha : n1 a ≤ 2 ^ 200) (hb : n1 b ≤ 2 ^ 200) : Bits a b := by
  refine ⟨200, 200, ha, hb, ?_⟩
  have h : ord a.length b.length ≤ 14 := by unfold ord; split <;> omega
  have : 5 ^ ord a.length b.length * 2 ^ (14 - ord a.length b.length) ≤ 5 ^ 14 := by
    generalize ord a.length b.length = e at *
    have : e = 0 ∨ e = 1 ∨ e = 2 ∨ e = 3 ∨ e = 4 ∨ e = 5 ∨ e = 6 ∨ e = 7 ∨ e = 8 ∨ e = 9 ∨ e = 10 ∨ e = 11 ∨ e = 12 ∨ e = 13 ∨ e = 14 := by omega
    rcases this with rfl | rfl | rfl | rfl | rfl | rfl | rfl | rfl | rfl | rfl | rfl | rfl | rfl | rfl | rfl <;> decide
  exact Nat.mul_le_mul_left 1412 this
/-- one step: what the next pair has, and that all numbers within the step have room -/
theorem Bits.step {o h : List Int} (B : Bits o h) (hh : h ≠ []) (lo : o.length ≤ 13) (lh : h.length ≤ 13) :
    ∃ x y : Nat, n1 o ≤ 2 ^ x ∧ n1 h ≤ 2 ^ y ∧ x + (o.length + 1 - h.length) * (y + 1) ≤ 43000000 ∧ y ≤ 43000000 ∧
      ∀ r : List Int, r.length < h.length → n1 r ≤ 2 ^ (x + (o.length + 1 - h.length) * (y + 1)) → Bits h r := by
  obtain ⟨x, y, h1, h2, h3⟩ := B
  have hL := List.length_pos_iff.mpr hh
  generalize hs : o.length + 1 - h.length = s at *
  have key : ∀ e d : Nat, ord o.length h.length = h.length + d → 1 ≤ d → s ≤ d + 1 → h.length + d ≤ 14 →
      (2 * y + 5 * (x + s * (y + 1)) + 12) * (5 ^ h.length * 2 ^ (14 - h.length)) ≤ 1412 * 5 ^ 14 := by
    intro e d hd hd1 hsd hd14
    rw [hd] at h3
    refine Nat.le_trans ?_ h3
    have hp := phi_step (x := x) (y := y) hsd hd1
    have e1 : 14 - h.length = (14 - (h.length + d)) + d := by omega
    rw [e1, Nat.pow_add, Nat.pow_add]
    generalize 5 ^ h.length = X
    generalize 2 ^ (14 - (h.length + d)) = Y
    have g := Nat.mul_le_mul_left (X * Y) hp
    generalize 2 ^ d = A at *
    generalize 5 ^ d = B at *
    have e2 : (2 * y + 5 * (x + s * (y + 1)) + 12) * (X * (Y * A)) = X * Y * ((2 * y + 5 * (x + s * (y + 1)) + 12) * A) := by
      generalize (2 * y + 5 * (x + s * (y + 1)) + 12) = F; grind
    have e3 : (2 * x + 5 * y + 12) * (X * B * Y) = X * Y * ((2 * x + 5 * y + 12) * B) := by
      generalize (2 * x + 5 * y + 12) = F; grind
    omega
  have main : (2 * y + 5 * (x + s * (y + 1)) + 12) * (5 ^ h.length * 2 ^ (14 - h.length)) ≤ 1412 * 5 ^ 14 := by
    by_cases hlt : h.length < o.length
    · exact key 0 (o.length - h.length) (by unfold ord; rw [if_pos hlt]; omega) (by omega) (by omega) (by omega)
    · exact key 0 1 (by unfold ord; rw [if_neg hlt]) (by omega) (by omega) (by omega)
  have hw := wts h.length (by omega) (by omega)
  have hb : (2 * y + 5 * (x + s * (y + 1)) + 12) * (5 * 2 ^ 13) ≤ 1412 * 5 ^ 14 := Nat.le_trans (Nat.mul_le_mul_left _ hw) main
  have hz : 2 * y + 5 * (x + s * (y + 1)) + 12 ≤ 210500000 := by
    apply Nat.le_of_not_lt
    intro hc
    have : 210500001 * (5 * 2 ^ 13) ≤ (2 * y + 5 * (x + s * (y + 1)) + 12) * (5 * 2 ^ 13) := Nat.mul_le_mul_right _ hc
    have h8 := Nat.le_trans this hb
    revert h8; decide
  have hy0 : y ≤ 43000000 := by
    have hw2 := wts (ord o.length h.length) (by unfold ord; split <;> omega) (by unfold ord; split <;> omega)
    have hb2 : (2 * x + 5 * y + 12) * (5 * 2 ^ 13) ≤ 1412 * 5 ^ 14 := Nat.le_trans (Nat.mul_le_mul_left _ hw2) h3
    have : 2 * x + 5 * y + 12 ≤ 210500000 := by
      apply Nat.le_of_not_lt
      intro hc
      have : 210500001 * (5 * 2 ^ 13) ≤ (2 * x + 5 * y + 12) * (5 * 2 ^ 13) := Nat.mul_le_mul_right _ hc
      have h8 := Nat.le_trans this hb2
      revert h8; decide
    omega
  refine ⟨x, y, h1, h2, by omega, hy0, fun r hr hn => ⟨y, x + s * (y + 1), h2, hn, ?_⟩⟩
  rw [show ord h.length r.length = h.length by unfold ord; rw [if_pos hr]]
  exact main
end PQ
end
section
set_option autoImplicit false
namespace PQ
/-- the germ r is a quotient of polynomials of a degree of at most d, with room for b bits in its form -/
def Sb (r : Int → Rat) (d b : Nat) : Prop := ∃ (A Q : List Int) (B : Nat), Rp r A Q ∧ Pz A d B ∧ Pz Q d B ∧ B * kap d ≤ 2 ^ b
theorem Is.size {f : Fn} {r : Int → Rat} {d b : Nat} (I : Is f r) (h : Sb r d b) : Sz f d b := by
  obtain ⟨A, Q, B, R, h1, h2, h3⟩ := h
  exact I.sz R h1 h2 h3
theorem Sb.of {r : Int → Rat} {A Q : List Int} {d' B' B b : Nat} (d : Nat) (R : Rp r A Q) (h1 : Pz A d' B') (h2 : Pz Q d' B') (hd : d' ≤ d) (hB : B' ≤ B) (h : B * kap d ≤ 2 ^ b) : Sb r d b := ⟨A, Q, B, R, h1.mono hd hB, h2.mono hd hB, h⟩
theorem Sb.congr {r s : Int → Rat} {d b : Nat} (h : Sb r d b) (e : Evt fun x => r x = s x) : Sb s d b := by
  obtain ⟨A, Q, B, R, h1, h2, h3⟩ := h
  exact ⟨A, Q, B, R.congr e, h1, h2, h3⟩
theorem Sb.neg {r : Int → Rat} {d b : Nat} (h : Sb r d b) : Sb (fun x => 0 - r x) d b := by
  obtain ⟨A, Q, B, R, h1, h2, h3⟩ := h
  refine ⟨psc (-1) A, Q, B, R.mono fun x hx => ⟨hx.1, ?_⟩, by simpa using h1.sc (-1), h2, h3⟩
  rw [er_psc, ← hx.2]
  have : ((-1 : Int) : Rat) = -1 := rfl
  grind
/-- 1 / (1 + x) -/
def fr : Int → Rat := fun x => 1 / (1 + (x : Rat))
abbrev gm (a b c d : Int → Rat) : Int → Rat := fun x => a x * d x - b x * c x
abbrev go (a b : Int → Rat) : Int → Rat := fun x => a x * fr x + b x
def Nz (r : Int → Rat) : Prop := Evt fun x => r x ≠ 0
/-- sizes of all that is made of a chain a, b, c, d -/
structure Base4 (a b c d : Int → Rat) : Prop where
  sa : Sb a 3 31
  sb : Sb b 3 31
  sc : Sb c 3 31
  sd : Sb d 3 31
  ad : Sb (fun x => a x * d x) 6 71
  bc : Sb (fun x => b x * c x) 6 71
  m : Sb (gm a b c d) 4 44
  af : Sb (fun x => a x * fr x) 4 44
  cf : Sb (fun x => c x * fr x) 4 44
  out : Sb (go a b) 4 44
  there : Sb (go c d) 4 44
/-- impedances -/
structure PlanC (a b c d : Int → Rat) : Prop where
  ac : Sb (fun x => a x / c x) 3 31
  bc : Sb (fun x => b x / c x) 3 31
  dc : Sb (fun x => d x / c x) 3 31
  mc : Sb (fun x => gm a b c d x / c x) 4 44
  adc : Sb (fun x => a x / c x * (d x / c x)) 6 71
  mcc : Sb (fun x => gm a b c d x / c x * (1 / c x)) 6 71
  t7 : Sb (fun x => a x / c x * go c d x) 7 85
  t4 : Sb (fun x => 1 / c x * go c d x) 4 44
/-- admittances -/
structure PlanB (a b c d : Int → Rat) : Prop where
  db : Sb (fun x => d x / b x) 3 31
  cb : Sb (fun x => c x / b x) 3 31
  ab : Sb (fun x => a x / b x) 3 31
  mb : Sb (fun x => gm a b c d x / b x) 4 44
  dab : Sb (fun x => d x / b x * (a x / b x)) 6 71
  mbb : Sb (fun x => gm a b c d x / b x * (1 / b x)) 6 71
  t7 : Sb (fun x => d x / b x * go a b x) 7 85
  t5 : Sb (fun x => gm a b c d x / b x * fr x) 5 54
  t4 : Sb (fun x => 1 / b x * go a b x) 4 44
  u4 : Sb (fun x => a x / b x * fr x) 4 44
/-- hybrids -/
structure PlanD (a b c d : Int → Rat) : Prop where
  bd : Sb (fun x => b x / d x) 3 31
  cd : Sb (fun x => c x / d x) 3 31
  md : Sb (fun x => gm a b c d x / d x) 4 44
  t7 : Sb (fun x => b x / d x * go c d x) 7 85
  t5 : Sb (fun x => gm a b c d x / d x * fr x) 5 54
  t4 : Sb (fun x => 1 / d x * go c d x) 4 44
  u4 : Sb (fun x => c x / d x * fr x) 4 44
structure Plan (a b c d : Int → Rat) : Prop where
  s : Base4 a b c d
  ne : Nz (gm a b c d)
  pc : Nz c → PlanC a b c d
  pb : Nz b → PlanB a b c d
  pd : Nz d → PlanD a b c d
end PQ
end
section
set_option autoImplicit false
namespace PQ
/-- the four germs of a row of rungs, over one denominator -/
def Lad (k s m : Nat) (a b c d : Int → Rat) : Prop := ∃ A B C E D : List Int,
  (Evt fun x => er D x ≠ 0 ∧ a x * er D x = er A x ∧ b x * er D x = er B x ∧ c x * er D x = er C x ∧ d x * er D x = er E x ∧ a x * d x - b x * c x = 1) ∧
  (Pz A k m ∧ Pz B k m ∧ Pz C k m ∧ Pz E k m ∧ Pz D k m) ∧ n1 A + n1 B ≤ s ∧ n1 C + n1 E ≤ s ∧ n1 D ≤ s
/-- the four germs of one rung -/
def Rg (e f g h : Int → Rat) : Prop := ∃ p q r : List Int, (Evt fun x => er p x ≠ 0 ∧ e x = 1 ∧ h x = 1 ∧ f x * er p x = er q x ∧ g x * er p x = er r x) ∧ (q = [] ∨ r = []) ∧ Pz p 1 6 ∧ Pz q 1 6 ∧ Pz r 1 6
theorem lad_start : Lad 0 1 1 (fun _ => 1) (fun _ => 0) (fun _ => 0) (fun _ => 1) :=
  ⟨[1], [], [], [1], [1], .all fun x => by simp [er]; grind, ⟨⟨by decide, by decide⟩, ⟨by decide, by decide⟩, ⟨by decide, by decide⟩, ⟨by decide, by decide⟩, ⟨by decide, by decide⟩⟩, by decide, by decide, by decide⟩
theorem pz6 {p q : List Int} {d e s : Nat} (h1 : Pz p d s) (h2 : Pz q e 6) {m : Nat} (hm : 6 * s ≤ m) {j : Nat} (hj : d + e ≤ j) : Pz (pmul p q) j m := (h1.mul h2).mono hj (by omega)
theorem Lad.step {k s m : Nat} {a b c d e f g h : Int → Rat} (L : Lad k s m a b c d) (R : Rg e f g h) :
    Lad (k + 1) (12 * s) (6 * s) (fun x => a x * e x + b x * g x) (fun x => a x * f x + b x * h x) (fun x => c x * e x + d x * g x) (fun x => c x * f x + d x * h x) := by
  obtain ⟨A, B, C, E, D, H, ⟨pA, pB, pC, pE, pD⟩, h1, h2, h3⟩ := L
  obtain ⟨p, q, r, G, hz, pp, pq, pr⟩ := R
  have mA := n1_pmul A p
  have mB := n1_pmul B p
  have mC := n1_pmul C p
  have mE := n1_pmul E p
  have mD := n1_pmul D p
  have mAq := n1_pmul A q
  have mBr := n1_pmul B r
  have mCq := n1_pmul C q
  have mEr := n1_pmul E r
  have up : ∀ {x y : Nat}, y ≤ 6 → x * y ≤ x * 6 := fun hy => Nat.mul_le_mul_left _ hy
  have e1 := up (x := n1 A) pp.b
  have e2 := up (x := n1 B) pp.b
  have e3 := up (x := n1 C) pp.b
  have e4 := up (x := n1 E) pp.b
  have e5 := up (x := n1 D) pp.b
  have e6 := up (x := n1 A) pq.b
  have e7 := up (x := n1 B) pr.b
  have e8 := up (x := n1 C) pq.b
  have e9 := up (x := n1 E) pr.b
  have s1 := n1_padd (pmul A p) (pmul B r)
  have s2 := n1_padd (pmul A q) (pmul B p)
  have s3 := n1_padd (pmul C p) (pmul E r)
  have s4 := n1_padd (pmul C q) (pmul E p)
  have len : ∀ {X Y Z W : List Int}, X.length ≤ k + 1 → Y.length ≤ 1 + 1 → Z.length ≤ k + 1 → W.length ≤ 1 + 1 → (padd (pmul X Y) (pmul Z W)).length ≤ k + 1 + 1 := fun h1 h2 h3 h4 => by
    rw [length_padd]
    have := length_pmul_le (d := k) (e := 1) h1 h2
    have := length_pmul_le (d := k) (e := 1) h3 h4
    omega
  have zq : q = [] → n1 (pmul A q) = 0 ∧ n1 (pmul C q) = 0 := fun z => by subst z; simp at mAq mCq; exact ⟨mAq, mCq⟩
  have zr : r = [] → n1 (pmul B r) = 0 ∧ n1 (pmul E r) = 0 := fun z => by subst z; simp at mBr mEr; exact ⟨mBr, mEr⟩
  refine ⟨padd (pmul A p) (pmul B r), padd (pmul A q) (pmul B p), padd (pmul C p) (pmul E r), padd (pmul C q) (pmul E p), pmul D p, (H.and G).mono fun x hx => ?_,
    ⟨⟨len pA.l pp.l pB.l pr.l, by omega⟩, ⟨len pA.l pq.l pB.l pp.l, by omega⟩, ⟨len pC.l pp.l pE.l pr.l, by omega⟩, ⟨len pC.l pq.l pE.l pp.l, by omega⟩, ⟨length_pmul_le (d := k) (e := 1) pD.l pp.l, by omega⟩⟩, ?_, ?_, by omega⟩
  · obtain ⟨⟨g1, g2, g3, g4, g5, g6⟩, g7, g8, g9, g10, g11⟩ := hx
    have fg : f x * g x = 0 := by
      have : er q x * er r x = 0 := by
        rcases hz with z | z
        · subst z; simp [er]
        · subst z; simp [er]
      grind
    simp only [er_padd, er_pmul, g8, g9]
    refine ⟨?_, ?_, ?_, ?_, ?_, ?_⟩ <;> grind
  · rcases hz with z | z
    · have := zq z; omega
    · have := zr z; omega
  · rcases hz with z | z
    · have := zq z; omega
    · have := zr z; omega
/-- what the program reckons on its way -/
theorem Lad.sizes {k s m : Nat} {a b c d e f g h : Int → Rat} (L : Lad k s m a b c d) (R : Rg e f g h) (hk : k ≤ 2) (hm : m ≤ 1000) :
    (Sb a 4 60 ∧ Sb b 4 60 ∧ Sb c 4 60 ∧ Sb d 4 60) ∧ (Sb e 4 60 ∧ Sb f 4 60 ∧ Sb g 4 60 ∧ Sb h 4 60) ∧
    (Sb (fun x => a x * e x) 4 60 ∧ Sb (fun x => b x * g x) 4 60 ∧ Sb (fun x => a x * f x) 4 60 ∧ Sb (fun x => b x * h x) 4 60 ∧ Sb (fun x => c x * e x) 4 60 ∧ Sb (fun x => d x * g x) 4 60 ∧ Sb (fun x => c x * f x) 4 60 ∧ Sb (fun x => d x * h x) 4 60) := by
  obtain ⟨A, B, C, E, D, H, ⟨pA, pB, pC, pE, pD⟩, h1, h2, h3⟩ := L
  obtain ⟨p, q, r, G, hz, pp, pq, pr⟩ := R
  have kp : 6000 * kap 4 ≤ 2 ^ 60 := by decide
  have HG := H.and G
  have one : ∀ {z : Int → Rat} {X : List Int}, Pz X k m → (∀ x, (er D x ≠ 0 ∧ a x * er D x = er A x ∧ b x * er D x = er B x ∧ c x * er D x = er C x ∧ d x * er D x = er E x ∧ a x * d x - b x * c x = 1) → z x * er D x = er X x) → Sb z 4 60 := fun {z X} pX hX =>
    Sb.of 4 (A := X) (Q := D) (d' := k) (B' := m) (B := 6000) (H.mono fun x hx => ⟨hx.1, hX x hx⟩) pX pD (by omega) (by omega) kp
  have two : ∀ {z : Int → Rat} {X : List Int}, Pz X 1 6 → (∀ x, (er p x ≠ 0 ∧ e x = 1 ∧ h x = 1 ∧ f x * er p x = er q x ∧ g x * er p x = er r x) → z x * er p x = er X x) → Sb z 4 60 := fun {z X} pX hX =>
    Sb.of 4 (A := X) (Q := p) (d' := 1) (B' := 6) (B := 6000) (G.mono fun x hx => ⟨hx.1, hX x hx⟩) pX pp (by omega) (by omega) kp
  have both : ∀ {z y : Int → Rat} {X Y : List Int}, Pz X k m → Pz Y 1 6 → (∀ x, (er D x ≠ 0 ∧ a x * er D x = er A x ∧ b x * er D x = er B x ∧ c x * er D x = er C x ∧ d x * er D x = er E x ∧ a x * d x - b x * c x = 1) → z x * er D x = er X x) →
      (∀ x, (er p x ≠ 0 ∧ e x = 1 ∧ h x = 1 ∧ f x * er p x = er q x ∧ g x * er p x = er r x) → y x * er p x = er Y x) → Sb (fun x => z x * y x) 4 60 := fun {z y X Y} pX pY hX hY =>
    Sb.of 4 (A := pmul X Y) (Q := pmul D p) (d' := k + 1) (B' := m * 6) (B := 6000) (HG.mono fun x hx => by
      have q1 := hX x hx.1
      have q2 := hY x hx.2
      have q3 := hx.1.1
      have q4 := hx.2.1
      rw [er_pmul, er_pmul]
      exact ⟨by grind, by grind⟩) (pX.mul pY) (pD.mul pp) (by omega) (by omega) kp
  have ra : ∀ x, (er D x ≠ 0 ∧ a x * er D x = er A x ∧ b x * er D x = er B x ∧ c x * er D x = er C x ∧ d x * er D x = er E x ∧ a x * d x - b x * c x = 1) → a x * er D x = er A x := fun x h => h.2.1
  have rb : ∀ x, (er D x ≠ 0 ∧ a x * er D x = er A x ∧ b x * er D x = er B x ∧ c x * er D x = er C x ∧ d x * er D x = er E x ∧ a x * d x - b x * c x = 1) → b x * er D x = er B x := fun x h => h.2.2.1
  have rc : ∀ x, (er D x ≠ 0 ∧ a x * er D x = er A x ∧ b x * er D x = er B x ∧ c x * er D x = er C x ∧ d x * er D x = er E x ∧ a x * d x - b x * c x = 1) → c x * er D x = er C x := fun x h => h.2.2.2.1
  have rd : ∀ x, (er D x ≠ 0 ∧ a x * er D x = er A x ∧ b x * er D x = er B x ∧ c x * er D x = er C x ∧ d x * er D x = er E x ∧ a x * d x - b x * c x = 1) → d x * er D x = er E x := fun x h => h.2.2.2.2.1
  have re : ∀ x, (er p x ≠ 0 ∧ e x = 1 ∧ h x = 1 ∧ f x * er p x = er q x ∧ g x * er p x = er r x) → e x * er p x = er p x := fun x h => by rw [h.2.1]; grind
  have rf : ∀ x, (er p x ≠ 0 ∧ e x = 1 ∧ h x = 1 ∧ f x * er p x = er q x ∧ g x * er p x = er r x) → f x * er p x = er q x := fun x h => h.2.2.2.1
  have rg : ∀ x, (er p x ≠ 0 ∧ e x = 1 ∧ h x = 1 ∧ f x * er p x = er q x ∧ g x * er p x = er r x) → g x * er p x = er r x := fun x h => h.2.2.2.2
  have rh : ∀ x, (er p x ≠ 0 ∧ e x = 1 ∧ h x = 1 ∧ f x * er p x = er q x ∧ g x * er p x = er r x) → h x * er p x = er p x := fun x h => by rw [h.2.2.1]; grind
  exact ⟨⟨one pA ra, one pB rb, one pC rc, one pE rd⟩, ⟨two pp re, two pq rf, two pr rg, two pp rh⟩, both pA pp ra re, both pB pr rb rg, both pA pq ra rf, both pB pp rb rh, both pC pp rc re, both pE pr rd rg, both pC pq rc rf, both pE pp rd rh⟩
end PQ
end
section
set_option autoImplicit false
namespace PQ
/-- r is a quotient of small polynomials of a degree of at most 1 -/
def Dr1 (r : Int → Rat) : Prop := ∃ t b : List Int, Rp r t b ∧ Pz t 1 8 ∧ Pz b 1 8
theorem sbq {r : Int → Rat} {A Q : List Int} {d1 d2 B1 B2 : Nat} {d b : Nat} (R : Rp r A Q) (h1 : Pz A d1 B1) (h2 : Pz Q d2 B2) (e1 : d1 ≤ d) (e2 : d2 ≤ d) (hb : (B1 + (B2 - B1)) * kap d ≤ 2 ^ b) : Sb r d b :=
  ⟨A, Q, B1 + (B2 - B1), R, h1.mono e1 (by omega), h2.mono e2 (by omega), hb⟩
theorem mne {a b : Rat} (h1 : a ≠ 0) (h2 : b ≠ 0) : a * b ≠ 0 := fun e => by
  rcases Rat.mul_eq_zero.mp e with z | z
  · exact h1 z
  · exact h2 z
theorem er_one (x : Int) : er [1, 1] x = 1 + (x : Rat) := by simp [er]
theorem evt_L : Evt fun x => er [1, 1] x ≠ 0 ∧ fr x * er [1, 1] x = 1 := (Evt.ge 0).mono fun x hx => by
  rw [er_one]
  have h : (1 : Rat) + (x : Rat) ≠ 0 := fun e => by
    have e2 : ((1 + x : Int) : Rat) = 0 := by rw [Rat.intCast_add]; exact e
    have := Rat.intCast_eq_zero_iff.mp e2
    omega
  refine ⟨h, ?_⟩
  unfold fr
  grind
theorem pzL : Pz [1, 1] 1 2 := ⟨by decide, by decide⟩
theorem neg1 : ((-1 : Int) : Rat) = -1 := rfl
theorem Pz.neg {p : List Int} {d B : Nat} (h : Pz p d B) : Pz (psc (-1) p) d B := ⟨by rw [length_psc]; exact h.l, by rw [n1_psc]; have := h.b; simp; omega⟩
/-- at x: the four germs are quotients -/
structure D4 (a b c d : Int → Rat) (a1 a2 b1 b2 c1 c2 d1 d2 : List Int) (x : Int) : Prop where
  na : er a2 x ≠ 0
  nb : er b2 x ≠ 0
  nc : er c2 x ≠ 0
  nd : er d2 x ≠ 0
  ea : er a1 x = a x * er a2 x
  eb : er b1 x = b x * er b2 x
  ec : er c1 x = c x * er c2 x
  ed : er d1 x = d x * er d2 x
  nl : er [1, 1] x ≠ 0
  el : fr x * er [1, 1] x = 1
structure L4 (a b c d : Int → Rat) (A B C E D : List Int) (x : Int) : Prop where
  nD : er D x ≠ 0
  eA : er A x = a x * er D x
  eB : er B x = b x * er D x
  eC : er C x = c x * er D x
  eE : er E x = d x * er D x
  em : a x * d x - b x * c x = 1
  nl : er [1, 1] x ≠ 0
  el : fr x * er [1, 1] x = 1
theorem dr_base {a b c d : Int → Rat} {a1 a2 b1 b2 c1 c2 d1 d2 : List Int} (HH : Evt fun x => D4 a b c d a1 a2 b1 b2 c1 c2 d1 d2 x) (pa1 : Pz a1 1 8) (pa2 : Pz a2 1 8) (pb1 : Pz b1 1 8) (pb2 : Pz b2 1 8) (pc1 : Pz c1 1 8) (pc2 : Pz c2 1 8) (pd1 : Pz d1 1 8) (pd2 : Pz d2 1 8) : Base4 a b c d where
  sa := by
    refine sbq (A := a1) (Q := a2) (HH.mono fun x hx => ?_) pa1 pa2 (by decide) (by decide) (by decide)
    have hx := hx
    obtain ⟨na, nb, nc, nd, ea, eb, ec, ed, nl, el⟩ := hx
    simp only [er_pmul, er_padd, er_psc, ea, eb, ec, ed, neg1, gm, go]
    generalize er [1, 1] x = l at *
    generalize fr x = f at *
    generalize er a2 x = p at *
    generalize er b2 x = q at *
    generalize er c2 x = u at *
    generalize er d2 x = v at *
    generalize a x = a at *
    generalize b x = b at *
    generalize c x = c at *
    generalize d x = d at *
    exact ⟨by (repeat' apply mne) <;> assumption, by grind⟩
  sb := by
    refine sbq (A := b1) (Q := b2) (HH.mono fun x hx => ?_) pb1 pb2 (by decide) (by decide) (by decide)
    have hx := hx
    obtain ⟨na, nb, nc, nd, ea, eb, ec, ed, nl, el⟩ := hx
    simp only [er_pmul, er_padd, er_psc, ea, eb, ec, ed, neg1, gm, go]
    generalize er [1, 1] x = l at *
    generalize fr x = f at *
    generalize er a2 x = p at *
    generalize er b2 x = q at *
    generalize er c2 x = u at *
    generalize er d2 x = v at *
    generalize a x = a at *
    generalize b x = b at *
    generalize c x = c at *
    generalize d x = d at *
    exact ⟨by (repeat' apply mne) <;> assumption, by grind⟩
  sc := by
    refine sbq (A := c1) (Q := c2) (HH.mono fun x hx => ?_) pc1 pc2 (by decide) (by decide) (by decide)
    have hx := hx
    obtain ⟨na, nb, nc, nd, ea, eb, ec, ed, nl, el⟩ := hx
    simp only [er_pmul, er_padd, er_psc, ea, eb, ec, ed, neg1, gm, go]
    generalize er [1, 1] x = l at *
    generalize fr x = f at *
    generalize er a2 x = p at *
    generalize er b2 x = q at *
    generalize er c2 x = u at *
    generalize er d2 x = v at *
    generalize a x = a at *
    generalize b x = b at *
    generalize c x = c at *
    generalize d x = d at *
    exact ⟨by (repeat' apply mne) <;> assumption, by grind⟩
  sd := by
    refine sbq (A := d1) (Q := d2) (HH.mono fun x hx => ?_) pd1 pd2 (by decide) (by decide) (by decide)
    have hx := hx
    obtain ⟨na, nb, nc, nd, ea, eb, ec, ed, nl, el⟩ := hx
    simp only [er_pmul, er_padd, er_psc, ea, eb, ec, ed, neg1, gm, go]
    generalize er [1, 1] x = l at *
    generalize fr x = f at *
    generalize er a2 x = p at *
    generalize er b2 x = q at *
    generalize er c2 x = u at *
    generalize er d2 x = v at *
    generalize a x = a at *
    generalize b x = b at *
    generalize c x = c at *
    generalize d x = d at *
    exact ⟨by (repeat' apply mne) <;> assumption, by grind⟩
  ad := by
    refine sbq (A := (pmul a1 d1)) (Q := (pmul a2 d2)) (HH.mono fun x hx => ?_) (pa1.mul pd1) (pa2.mul pd2) (by decide) (by decide) (by decide)
    have hx := hx
    obtain ⟨na, nb, nc, nd, ea, eb, ec, ed, nl, el⟩ := hx
    simp only [er_pmul, er_padd, er_psc, ea, eb, ec, ed, neg1, gm, go]
    generalize er [1, 1] x = l at *
    generalize fr x = f at *
    generalize er a2 x = p at *
    generalize er b2 x = q at *
    generalize er c2 x = u at *
    generalize er d2 x = v at *
    generalize a x = a at *
    generalize b x = b at *
    generalize c x = c at *
    generalize d x = d at *
    exact ⟨by (repeat' apply mne) <;> assumption, by grind⟩
  bc := by
    refine sbq (A := (pmul b1 c1)) (Q := (pmul b2 c2)) (HH.mono fun x hx => ?_) (pb1.mul pc1) (pb2.mul pc2) (by decide) (by decide) (by decide)
    have hx := hx
    obtain ⟨na, nb, nc, nd, ea, eb, ec, ed, nl, el⟩ := hx
    simp only [er_pmul, er_padd, er_psc, ea, eb, ec, ed, neg1, gm, go]
    generalize er [1, 1] x = l at *
    generalize fr x = f at *
    generalize er a2 x = p at *
    generalize er b2 x = q at *
    generalize er c2 x = u at *
    generalize er d2 x = v at *
    generalize a x = a at *
    generalize b x = b at *
    generalize c x = c at *
    generalize d x = d at *
    exact ⟨by (repeat' apply mne) <;> assumption, by grind⟩
  m := by
    refine sbq (A := (padd (pmul (pmul (pmul a1 d1) b2) c2) (psc (-1) (pmul (pmul (pmul b1 c1) a2) d2)))) (Q := (pmul (pmul (pmul a2 b2) c2) d2)) (HH.mono fun x hx => ?_) ((((pa1.mul pd1).mul pb2).mul pc2).add ((((pb1.mul pc1).mul pa2).mul pd2).neg)) (((pa2.mul pb2).mul pc2).mul pd2) (by decide) (by decide) (by decide)
    have hx := hx
    obtain ⟨na, nb, nc, nd, ea, eb, ec, ed, nl, el⟩ := hx
    simp only [er_pmul, er_padd, er_psc, ea, eb, ec, ed, neg1, gm, go]
    generalize er [1, 1] x = l at *
    generalize fr x = f at *
    generalize er a2 x = p at *
    generalize er b2 x = q at *
    generalize er c2 x = u at *
    generalize er d2 x = v at *
    generalize a x = a at *
    generalize b x = b at *
    generalize c x = c at *
    generalize d x = d at *
    exact ⟨by (repeat' apply mne) <;> assumption, by grind⟩
  af := by
    refine sbq (A := a1) (Q := (pmul a2 [1, 1])) (HH.mono fun x hx => ?_) pa1 (pa2.mul pzL) (by decide) (by decide) (by decide)
    have hx := hx
    obtain ⟨na, nb, nc, nd, ea, eb, ec, ed, nl, el⟩ := hx
    simp only [er_pmul, er_padd, er_psc, ea, eb, ec, ed, neg1, gm, go]
    generalize er [1, 1] x = l at *
    generalize fr x = f at *
    generalize er a2 x = p at *
    generalize er b2 x = q at *
    generalize er c2 x = u at *
    generalize er d2 x = v at *
    generalize a x = a at *
    generalize b x = b at *
    generalize c x = c at *
    generalize d x = d at *
    exact ⟨by (repeat' apply mne) <;> assumption, by grind⟩
  cf := by
    refine sbq (A := c1) (Q := (pmul c2 [1, 1])) (HH.mono fun x hx => ?_) pc1 (pc2.mul pzL) (by decide) (by decide) (by decide)
    have hx := hx
    obtain ⟨na, nb, nc, nd, ea, eb, ec, ed, nl, el⟩ := hx
    simp only [er_pmul, er_padd, er_psc, ea, eb, ec, ed, neg1, gm, go]
    generalize er [1, 1] x = l at *
    generalize fr x = f at *
    generalize er a2 x = p at *
    generalize er b2 x = q at *
    generalize er c2 x = u at *
    generalize er d2 x = v at *
    generalize a x = a at *
    generalize b x = b at *
    generalize c x = c at *
    generalize d x = d at *
    exact ⟨by (repeat' apply mne) <;> assumption, by grind⟩
  out := by
    refine sbq (A := (padd (pmul a1 b2) (pmul (pmul b1 a2) [1, 1]))) (Q := (pmul (pmul a2 b2) [1, 1])) (HH.mono fun x hx => ?_) ((pa1.mul pb2).add ((pb1.mul pa2).mul pzL)) ((pa2.mul pb2).mul pzL) (by decide) (by decide) (by decide)
    have hx := hx
    obtain ⟨na, nb, nc, nd, ea, eb, ec, ed, nl, el⟩ := hx
    simp only [er_pmul, er_padd, er_psc, ea, eb, ec, ed, neg1, gm, go]
    generalize er [1, 1] x = l at *
    generalize fr x = f at *
    generalize er a2 x = p at *
    generalize er b2 x = q at *
    generalize er c2 x = u at *
    generalize er d2 x = v at *
    generalize a x = a at *
    generalize b x = b at *
    generalize c x = c at *
    generalize d x = d at *
    exact ⟨by (repeat' apply mne) <;> assumption, by grind⟩
  there := by
    refine sbq (A := (padd (pmul c1 d2) (pmul (pmul d1 c2) [1, 1]))) (Q := (pmul (pmul c2 d2) [1, 1])) (HH.mono fun x hx => ?_) ((pc1.mul pd2).add ((pd1.mul pc2).mul pzL)) ((pc2.mul pd2).mul pzL) (by decide) (by decide) (by decide)
    have hx := hx
    obtain ⟨na, nb, nc, nd, ea, eb, ec, ed, nl, el⟩ := hx
    simp only [er_pmul, er_padd, er_psc, ea, eb, ec, ed, neg1, gm, go]
    generalize er [1, 1] x = l at *
    generalize fr x = f at *
    generalize er a2 x = p at *
    generalize er b2 x = q at *
    generalize er c2 x = u at *
    generalize er d2 x = v at *
    generalize a x = a at *
    generalize b x = b at *
    generalize c x = c at *
    generalize d x = d at *
    exact ⟨by (repeat' apply mne) <;> assumption, by grind⟩
theorem dr_c {a b c d : Int → Rat} {a1 a2 b1 b2 c1 c2 d1 d2 : List Int} (HH : Evt fun x => D4 a b c d a1 a2 b1 b2 c1 c2 d1 d2 x) (pa1 : Pz a1 1 8) (pa2 : Pz a2 1 8) (pb1 : Pz b1 1 8) (pb2 : Pz b2 1 8) (pc1 : Pz c1 1 8) (pc2 : Pz c2 1 8) (pd1 : Pz d1 1 8) (pd2 : Pz d2 1 8) (hn : Nz c) : PlanC a b c d where
  ac := by
    refine sbq (A := (pmul a1 c2)) (Q := (pmul a2 c1)) ((HH.and hn).mono fun x hx => ?_) (pa1.mul pc2) (pa2.mul pc1) (by decide) (by decide) (by decide)
    obtain ⟨hx, hn⟩ := hx
    obtain ⟨na, nb, nc, nd, ea, eb, ec, ed, nl, el⟩ := hx
    simp only [er_pmul, er_padd, er_psc, ea, eb, ec, ed, neg1, gm, go]
    generalize er [1, 1] x = l at *
    generalize fr x = f at *
    generalize er a2 x = p at *
    generalize er b2 x = q at *
    generalize er c2 x = u at *
    generalize er d2 x = v at *
    generalize a x = a at *
    generalize b x = b at *
    generalize c x = c at *
    generalize d x = d at *
    exact ⟨by (repeat' apply mne) <;> assumption, by grind⟩
  bc := by
    refine sbq (A := (pmul b1 c2)) (Q := (pmul b2 c1)) ((HH.and hn).mono fun x hx => ?_) (pb1.mul pc2) (pb2.mul pc1) (by decide) (by decide) (by decide)
    obtain ⟨hx, hn⟩ := hx
    obtain ⟨na, nb, nc, nd, ea, eb, ec, ed, nl, el⟩ := hx
    simp only [er_pmul, er_padd, er_psc, ea, eb, ec, ed, neg1, gm, go]
    generalize er [1, 1] x = l at *
    generalize fr x = f at *
    generalize er a2 x = p at *
    generalize er b2 x = q at *
    generalize er c2 x = u at *
    generalize er d2 x = v at *
    generalize a x = a at *
    generalize b x = b at *
    generalize c x = c at *
    generalize d x = d at *
    exact ⟨by (repeat' apply mne) <;> assumption, by grind⟩
  dc := by
    refine sbq (A := (pmul d1 c2)) (Q := (pmul d2 c1)) ((HH.and hn).mono fun x hx => ?_) (pd1.mul pc2) (pd2.mul pc1) (by decide) (by decide) (by decide)
    obtain ⟨hx, hn⟩ := hx
    obtain ⟨na, nb, nc, nd, ea, eb, ec, ed, nl, el⟩ := hx
    simp only [er_pmul, er_padd, er_psc, ea, eb, ec, ed, neg1, gm, go]
    generalize er [1, 1] x = l at *
    generalize fr x = f at *
    generalize er a2 x = p at *
    generalize er b2 x = q at *
    generalize er c2 x = u at *
    generalize er d2 x = v at *
    generalize a x = a at *
    generalize b x = b at *
    generalize c x = c at *
    generalize d x = d at *
    exact ⟨by (repeat' apply mne) <;> assumption, by grind⟩
  mc := by
    refine sbq (A := (padd (pmul (pmul (pmul a1 d1) b2) c2) (psc (-1) (pmul (pmul (pmul b1 c1) a2) d2)))) (Q := (pmul (pmul (pmul a2 b2) d2) c1)) ((HH.and hn).mono fun x hx => ?_) ((((pa1.mul pd1).mul pb2).mul pc2).add ((((pb1.mul pc1).mul pa2).mul pd2).neg)) (((pa2.mul pb2).mul pd2).mul pc1) (by decide) (by decide) (by decide)
    obtain ⟨hx, hn⟩ := hx
    obtain ⟨na, nb, nc, nd, ea, eb, ec, ed, nl, el⟩ := hx
    simp only [er_pmul, er_padd, er_psc, ea, eb, ec, ed, neg1, gm, go]
    generalize er [1, 1] x = l at *
    generalize fr x = f at *
    generalize er a2 x = p at *
    generalize er b2 x = q at *
    generalize er c2 x = u at *
    generalize er d2 x = v at *
    generalize a x = a at *
    generalize b x = b at *
    generalize c x = c at *
    generalize d x = d at *
    exact ⟨by (repeat' apply mne) <;> assumption, by grind⟩
  adc := by
    refine sbq (A := (pmul (pmul (pmul a1 d1) c2) c2)) (Q := (pmul (pmul (pmul a2 d2) c1) c1)) ((HH.and hn).mono fun x hx => ?_) (((pa1.mul pd1).mul pc2).mul pc2) (((pa2.mul pd2).mul pc1).mul pc1) (by decide) (by decide) (by decide)
    obtain ⟨hx, hn⟩ := hx
    obtain ⟨na, nb, nc, nd, ea, eb, ec, ed, nl, el⟩ := hx
    simp only [er_pmul, er_padd, er_psc, ea, eb, ec, ed, neg1, gm, go]
    generalize er [1, 1] x = l at *
    generalize fr x = f at *
    generalize er a2 x = p at *
    generalize er b2 x = q at *
    generalize er c2 x = u at *
    generalize er d2 x = v at *
    generalize a x = a at *
    generalize b x = b at *
    generalize c x = c at *
    generalize d x = d at *
    exact ⟨by (repeat' apply mne) <;> assumption, by grind⟩
  mcc := by
    refine sbq (A := (pmul (padd (pmul (pmul (pmul a1 d1) b2) c2) (psc (-1) (pmul (pmul (pmul b1 c1) a2) d2))) c2)) (Q := (pmul (pmul (pmul (pmul a2 b2) d2) c1) c1)) ((HH.and hn).mono fun x hx => ?_) (((((pa1.mul pd1).mul pb2).mul pc2).add ((((pb1.mul pc1).mul pa2).mul pd2).neg)).mul pc2) ((((pa2.mul pb2).mul pd2).mul pc1).mul pc1) (by decide) (by decide) (by decide)
    obtain ⟨hx, hn⟩ := hx
    obtain ⟨na, nb, nc, nd, ea, eb, ec, ed, nl, el⟩ := hx
    simp only [er_pmul, er_padd, er_psc, ea, eb, ec, ed, neg1, gm, go]
    generalize er [1, 1] x = l at *
    generalize fr x = f at *
    generalize er a2 x = p at *
    generalize er b2 x = q at *
    generalize er c2 x = u at *
    generalize er d2 x = v at *
    generalize a x = a at *
    generalize b x = b at *
    generalize c x = c at *
    generalize d x = d at *
    exact ⟨by (repeat' apply mne) <;> assumption, by grind⟩
  t7 := by
    refine sbq (A := (pmul a1 (padd (pmul c1 d2) (pmul (pmul d1 c2) [1, 1])))) (Q := (pmul (pmul (pmul a2 c1) d2) [1, 1])) ((HH.and hn).mono fun x hx => ?_) (pa1.mul ((pc1.mul pd2).add ((pd1.mul pc2).mul pzL))) (((pa2.mul pc1).mul pd2).mul pzL) (by decide) (by decide) (by decide)
    obtain ⟨hx, hn⟩ := hx
    obtain ⟨na, nb, nc, nd, ea, eb, ec, ed, nl, el⟩ := hx
    simp only [er_pmul, er_padd, er_psc, ea, eb, ec, ed, neg1, gm, go]
    generalize er [1, 1] x = l at *
    generalize fr x = f at *
    generalize er a2 x = p at *
    generalize er b2 x = q at *
    generalize er c2 x = u at *
    generalize er d2 x = v at *
    generalize a x = a at *
    generalize b x = b at *
    generalize c x = c at *
    generalize d x = d at *
    exact ⟨by (repeat' apply mne) <;> assumption, by grind⟩
  t4 := by
    refine sbq (A := (padd (pmul c1 d2) (pmul (pmul d1 c2) [1, 1]))) (Q := (pmul (pmul c1 d2) [1, 1])) ((HH.and hn).mono fun x hx => ?_) ((pc1.mul pd2).add ((pd1.mul pc2).mul pzL)) ((pc1.mul pd2).mul pzL) (by decide) (by decide) (by decide)
    obtain ⟨hx, hn⟩ := hx
    obtain ⟨na, nb, nc, nd, ea, eb, ec, ed, nl, el⟩ := hx
    simp only [er_pmul, er_padd, er_psc, ea, eb, ec, ed, neg1, gm, go]
    generalize er [1, 1] x = l at *
    generalize fr x = f at *
    generalize er a2 x = p at *
    generalize er b2 x = q at *
    generalize er c2 x = u at *
    generalize er d2 x = v at *
    generalize a x = a at *
    generalize b x = b at *
    generalize c x = c at *
    generalize d x = d at *
    exact ⟨by (repeat' apply mne) <;> assumption, by grind⟩
theorem dr_b {a b c d : Int → Rat} {a1 a2 b1 b2 c1 c2 d1 d2 : List Int} (HH : Evt fun x => D4 a b c d a1 a2 b1 b2 c1 c2 d1 d2 x) (pa1 : Pz a1 1 8) (pa2 : Pz a2 1 8) (pb1 : Pz b1 1 8) (pb2 : Pz b2 1 8) (pc1 : Pz c1 1 8) (pc2 : Pz c2 1 8) (pd1 : Pz d1 1 8) (pd2 : Pz d2 1 8) (hn : Nz b) : PlanB a b c d where
  db := by
    refine sbq (A := (pmul d1 b2)) (Q := (pmul d2 b1)) ((HH.and hn).mono fun x hx => ?_) (pd1.mul pb2) (pd2.mul pb1) (by decide) (by decide) (by decide)
    obtain ⟨hx, hn⟩ := hx
    obtain ⟨na, nb, nc, nd, ea, eb, ec, ed, nl, el⟩ := hx
    simp only [er_pmul, er_padd, er_psc, ea, eb, ec, ed, neg1, gm, go]
    generalize er [1, 1] x = l at *
    generalize fr x = f at *
    generalize er a2 x = p at *
    generalize er b2 x = q at *
    generalize er c2 x = u at *
    generalize er d2 x = v at *
    generalize a x = a at *
    generalize b x = b at *
    generalize c x = c at *
    generalize d x = d at *
    exact ⟨by (repeat' apply mne) <;> assumption, by grind⟩
  cb := by
    refine sbq (A := (pmul c1 b2)) (Q := (pmul c2 b1)) ((HH.and hn).mono fun x hx => ?_) (pc1.mul pb2) (pc2.mul pb1) (by decide) (by decide) (by decide)
    obtain ⟨hx, hn⟩ := hx
    obtain ⟨na, nb, nc, nd, ea, eb, ec, ed, nl, el⟩ := hx
    simp only [er_pmul, er_padd, er_psc, ea, eb, ec, ed, neg1, gm, go]
    generalize er [1, 1] x = l at *
    generalize fr x = f at *
    generalize er a2 x = p at *
    generalize er b2 x = q at *
    generalize er c2 x = u at *
    generalize er d2 x = v at *
    generalize a x = a at *
    generalize b x = b at *
    generalize c x = c at *
    generalize d x = d at *
    exact ⟨by (repeat' apply mne) <;> assumption, by grind⟩
  ab := by
    refine sbq (A := (pmul a1 b2)) (Q := (pmul a2 b1)) ((HH.and hn).mono fun x hx => ?_) (pa1.mul pb2) (pa2.mul pb1) (by decide) (by decide) (by decide)
    obtain ⟨hx, hn⟩ := hx
    obtain ⟨na, nb, nc, nd, ea, eb, ec, ed, nl, el⟩ := hx
    simp only [er_pmul, er_padd, er_psc, ea, eb, ec, ed, neg1, gm, go]
    generalize er [1, 1] x = l at *
    generalize fr x = f at *
    generalize er a2 x = p at *
    generalize er b2 x = q at *
    generalize er c2 x = u at *
    generalize er d2 x = v at *
    generalize a x = a at *
    generalize b x = b at *
    generalize c x = c at *
    generalize d x = d at *
    exact ⟨by (repeat' apply mne) <;> assumption, by grind⟩
  mb := by
    refine sbq (A := (padd (pmul (pmul (pmul a1 d1) b2) c2) (psc (-1) (pmul (pmul (pmul b1 c1) a2) d2)))) (Q := (pmul (pmul (pmul a2 c2) d2) b1)) ((HH.and hn).mono fun x hx => ?_) ((((pa1.mul pd1).mul pb2).mul pc2).add ((((pb1.mul pc1).mul pa2).mul pd2).neg)) (((pa2.mul pc2).mul pd2).mul pb1) (by decide) (by decide) (by decide)
    obtain ⟨hx, hn⟩ := hx
    obtain ⟨na, nb, nc, nd, ea, eb, ec, ed, nl, el⟩ := hx
    simp only [er_pmul, er_padd, er_psc, ea, eb, ec, ed, neg1, gm, go]
    generalize er [1, 1] x = l at *
    generalize fr x = f at *
    generalize er a2 x = p at *
    generalize er b2 x = q at *
    generalize er c2 x = u at *
    generalize er d2 x = v at *
    generalize a x = a at *
    generalize b x = b at *
    generalize c x = c at *
    generalize d x = d at *
    exact ⟨by (repeat' apply mne) <;> assumption, by grind⟩
  dab := by
    refine sbq (A := (pmul (pmul (pmul d1 a1) b2) b2)) (Q := (pmul (pmul (pmul d2 a2) b1) b1)) ((HH.and hn).mono fun x hx => ?_) (((pd1.mul pa1).mul pb2).mul pb2) (((pd2.mul pa2).mul pb1).mul pb1) (by decide) (by decide) (by decide)
    obtain ⟨hx, hn⟩ := hx
    obtain ⟨na, nb, nc, nd, ea, eb, ec, ed, nl, el⟩ := hx
    simp only [er_pmul, er_padd, er_psc, ea, eb, ec, ed, neg1, gm, go]
    generalize er [1, 1] x = l at *
    generalize fr x = f at *
    generalize er a2 x = p at *
    generalize er b2 x = q at *
    generalize er c2 x = u at *
    generalize er d2 x = v at *
    generalize a x = a at *
    generalize b x = b at *
    generalize c x = c at *
    generalize d x = d at *
    exact ⟨by (repeat' apply mne) <;> assumption, by grind⟩
  mbb := by
    refine sbq (A := (pmul (padd (pmul (pmul (pmul a1 d1) b2) c2) (psc (-1) (pmul (pmul (pmul b1 c1) a2) d2))) b2)) (Q := (pmul (pmul (pmul (pmul a2 c2) d2) b1) b1)) ((HH.and hn).mono fun x hx => ?_) (((((pa1.mul pd1).mul pb2).mul pc2).add ((((pb1.mul pc1).mul pa2).mul pd2).neg)).mul pb2) ((((pa2.mul pc2).mul pd2).mul pb1).mul pb1) (by decide) (by decide) (by decide)
    obtain ⟨hx, hn⟩ := hx
    obtain ⟨na, nb, nc, nd, ea, eb, ec, ed, nl, el⟩ := hx
    simp only [er_pmul, er_padd, er_psc, ea, eb, ec, ed, neg1, gm, go]
    generalize er [1, 1] x = l at *
    generalize fr x = f at *
    generalize er a2 x = p at *
    generalize er b2 x = q at *
    generalize er c2 x = u at *
    generalize er d2 x = v at *
    generalize a x = a at *
    generalize b x = b at *
    generalize c x = c at *
    generalize d x = d at *
    exact ⟨by (repeat' apply mne) <;> assumption, by grind⟩
  t7 := by
    refine sbq (A := (pmul d1 (padd (pmul a1 b2) (pmul (pmul b1 a2) [1, 1])))) (Q := (pmul (pmul (pmul d2 b1) a2) [1, 1])) ((HH.and hn).mono fun x hx => ?_) (pd1.mul ((pa1.mul pb2).add ((pb1.mul pa2).mul pzL))) (((pd2.mul pb1).mul pa2).mul pzL) (by decide) (by decide) (by decide)
    obtain ⟨hx, hn⟩ := hx
    obtain ⟨na, nb, nc, nd, ea, eb, ec, ed, nl, el⟩ := hx
    simp only [er_pmul, er_padd, er_psc, ea, eb, ec, ed, neg1, gm, go]
    generalize er [1, 1] x = l at *
    generalize fr x = f at *
    generalize er a2 x = p at *
    generalize er b2 x = q at *
    generalize er c2 x = u at *
    generalize er d2 x = v at *
    generalize a x = a at *
    generalize b x = b at *
    generalize c x = c at *
    generalize d x = d at *
    exact ⟨by (repeat' apply mne) <;> assumption, by grind⟩
  t5 := by
    refine sbq (A := (padd (pmul (pmul (pmul a1 d1) b2) c2) (psc (-1) (pmul (pmul (pmul b1 c1) a2) d2)))) (Q := (pmul (pmul (pmul (pmul a2 c2) d2) b1) [1, 1])) ((HH.and hn).mono fun x hx => ?_) ((((pa1.mul pd1).mul pb2).mul pc2).add ((((pb1.mul pc1).mul pa2).mul pd2).neg)) ((((pa2.mul pc2).mul pd2).mul pb1).mul pzL) (by decide) (by decide) (by decide)
    obtain ⟨hx, hn⟩ := hx
    obtain ⟨na, nb, nc, nd, ea, eb, ec, ed, nl, el⟩ := hx
    simp only [er_pmul, er_padd, er_psc, ea, eb, ec, ed, neg1, gm, go]
    generalize er [1, 1] x = l at *
    generalize fr x = f at *
    generalize er a2 x = p at *
    generalize er b2 x = q at *
    generalize er c2 x = u at *
    generalize er d2 x = v at *
    generalize a x = a at *
    generalize b x = b at *
    generalize c x = c at *
    generalize d x = d at *
    exact ⟨by (repeat' apply mne) <;> assumption, by grind⟩
  t4 := by
    refine sbq (A := (padd (pmul a1 b2) (pmul (pmul b1 a2) [1, 1]))) (Q := (pmul (pmul b1 a2) [1, 1])) ((HH.and hn).mono fun x hx => ?_) ((pa1.mul pb2).add ((pb1.mul pa2).mul pzL)) ((pb1.mul pa2).mul pzL) (by decide) (by decide) (by decide)
    obtain ⟨hx, hn⟩ := hx
    obtain ⟨na, nb, nc, nd, ea, eb, ec, ed, nl, el⟩ := hx
    simp only [er_pmul, er_padd, er_psc, ea, eb, ec, ed, neg1, gm, go]
    generalize er [1, 1] x = l at *
    generalize fr x = f at *
    generalize er a2 x = p at *
    generalize er b2 x = q at *
    generalize er c2 x = u at *
    generalize er d2 x = v at *
    generalize a x = a at *
    generalize b x = b at *
    generalize c x = c at *
    generalize d x = d at *
    exact ⟨by (repeat' apply mne) <;> assumption, by grind⟩
  u4 := by
    refine sbq (A := (pmul a1 b2)) (Q := (pmul (pmul a2 b1) [1, 1])) ((HH.and hn).mono fun x hx => ?_) (pa1.mul pb2) ((pa2.mul pb1).mul pzL) (by decide) (by decide) (by decide)
    obtain ⟨hx, hn⟩ := hx
    obtain ⟨na, nb, nc, nd, ea, eb, ec, ed, nl, el⟩ := hx
    simp only [er_pmul, er_padd, er_psc, ea, eb, ec, ed, neg1, gm, go]
    generalize er [1, 1] x = l at *
    generalize fr x = f at *
    generalize er a2 x = p at *
    generalize er b2 x = q at *
    generalize er c2 x = u at *
    generalize er d2 x = v at *
    generalize a x = a at *
    generalize b x = b at *
    generalize c x = c at *
    generalize d x = d at *
    exact ⟨by (repeat' apply mne) <;> assumption, by grind⟩
theorem dr_d {a b c d : Int → Rat} {a1 a2 b1 b2 c1 c2 d1 d2 : List Int} (HH : Evt fun x => D4 a b c d a1 a2 b1 b2 c1 c2 d1 d2 x) (pa1 : Pz a1 1 8) (pa2 : Pz a2 1 8) (pb1 : Pz b1 1 8) (pb2 : Pz b2 1 8) (pc1 : Pz c1 1 8) (pc2 : Pz c2 1 8) (pd1 : Pz d1 1 8) (pd2 : Pz d2 1 8) (hn : Nz d) : PlanD a b c d where
  bd := by
    refine sbq (A := (pmul b1 d2)) (Q := (pmul b2 d1)) ((HH.and hn).mono fun x hx => ?_) (pb1.mul pd2) (pb2.mul pd1) (by decide) (by decide) (by decide)
    obtain ⟨hx, hn⟩ := hx
    obtain ⟨na, nb, nc, nd, ea, eb, ec, ed, nl, el⟩ := hx
    simp only [er_pmul, er_padd, er_psc, ea, eb, ec, ed, neg1, gm, go]
    generalize er [1, 1] x = l at *
    generalize fr x = f at *
    generalize er a2 x = p at *
    generalize er b2 x = q at *
    generalize er c2 x = u at *
    generalize er d2 x = v at *
    generalize a x = a at *
    generalize b x = b at *
    generalize c x = c at *
    generalize d x = d at *
    exact ⟨by (repeat' apply mne) <;> assumption, by grind⟩
  cd := by
    refine sbq (A := (pmul c1 d2)) (Q := (pmul c2 d1)) ((HH.and hn).mono fun x hx => ?_) (pc1.mul pd2) (pc2.mul pd1) (by decide) (by decide) (by decide)
    obtain ⟨hx, hn⟩ := hx
    obtain ⟨na, nb, nc, nd, ea, eb, ec, ed, nl, el⟩ := hx
    simp only [er_pmul, er_padd, er_psc, ea, eb, ec, ed, neg1, gm, go]
    generalize er [1, 1] x = l at *
    generalize fr x = f at *
    generalize er a2 x = p at *
    generalize er b2 x = q at *
    generalize er c2 x = u at *
    generalize er d2 x = v at *
    generalize a x = a at *
    generalize b x = b at *
    generalize c x = c at *
    generalize d x = d at *
    exact ⟨by (repeat' apply mne) <;> assumption, by grind⟩
  md := by
    refine sbq (A := (padd (pmul (pmul (pmul a1 d1) b2) c2) (psc (-1) (pmul (pmul (pmul b1 c1) a2) d2)))) (Q := (pmul (pmul (pmul a2 b2) c2) d1)) ((HH.and hn).mono fun x hx => ?_) ((((pa1.mul pd1).mul pb2).mul pc2).add ((((pb1.mul pc1).mul pa2).mul pd2).neg)) (((pa2.mul pb2).mul pc2).mul pd1) (by decide) (by decide) (by decide)
    obtain ⟨hx, hn⟩ := hx
    obtain ⟨na, nb, nc, nd, ea, eb, ec, ed, nl, el⟩ := hx
    simp only [er_pmul, er_padd, er_psc, ea, eb, ec, ed, neg1, gm, go]
    generalize er [1, 1] x = l at *
    generalize fr x = f at *
    generalize er a2 x = p at *
    generalize er b2 x = q at *
    generalize er c2 x = u at *
    generalize er d2 x = v at *
    generalize a x = a at *
    generalize b x = b at *
    generalize c x = c at *
    generalize d x = d at *
    exact ⟨by (repeat' apply mne) <;> assumption, by grind⟩
  t7 := by
    refine sbq (A := (pmul b1 (padd (pmul c1 d2) (pmul (pmul d1 c2) [1, 1])))) (Q := (pmul (pmul (pmul b2 d1) c2) [1, 1])) ((HH.and hn).mono fun x hx => ?_) (pb1.mul ((pc1.mul pd2).add ((pd1.mul pc2).mul pzL))) (((pb2.mul pd1).mul pc2).mul pzL) (by decide) (by decide) (by decide)
    obtain ⟨hx, hn⟩ := hx
    obtain ⟨na, nb, nc, nd, ea, eb, ec, ed, nl, el⟩ := hx
    simp only [er_pmul, er_padd, er_psc, ea, eb, ec, ed, neg1, gm, go]
    generalize er [1, 1] x = l at *
    generalize fr x = f at *
    generalize er a2 x = p at *
    generalize er b2 x = q at *
    generalize er c2 x = u at *
    generalize er d2 x = v at *
    generalize a x = a at *
    generalize b x = b at *
    generalize c x = c at *
    generalize d x = d at *
    exact ⟨by (repeat' apply mne) <;> assumption, by grind⟩
  t5 := by
    refine sbq (A := (padd (pmul (pmul (pmul a1 d1) b2) c2) (psc (-1) (pmul (pmul (pmul b1 c1) a2) d2)))) (Q := (pmul (pmul (pmul (pmul a2 b2) c2) d1) [1, 1])) ((HH.and hn).mono fun x hx => ?_) ((((pa1.mul pd1).mul pb2).mul pc2).add ((((pb1.mul pc1).mul pa2).mul pd2).neg)) ((((pa2.mul pb2).mul pc2).mul pd1).mul pzL) (by decide) (by decide) (by decide)
    obtain ⟨hx, hn⟩ := hx
    obtain ⟨na, nb, nc, nd, ea, eb, ec, ed, nl, el⟩ := hx
    simp only [er_pmul, er_padd, er_psc, ea, eb, ec, ed, neg1, gm, go]
    generalize er [1, 1] x = l at *
    generalize fr x = f at *
    generalize er a2 x = p at *
    generalize er b2 x = q at *
    generalize er c2 x = u at *
    generalize er d2 x = v at *
    generalize a x = a at *
    generalize b x = b at *
    generalize c x = c at *
    generalize d x = d at *
    exact ⟨by (repeat' apply mne) <;> assumption, by grind⟩
  t4 := by
    refine sbq (A := (padd (pmul c1 d2) (pmul (pmul d1 c2) [1, 1]))) (Q := (pmul (pmul d1 c2) [1, 1])) ((HH.and hn).mono fun x hx => ?_) ((pc1.mul pd2).add ((pd1.mul pc2).mul pzL)) ((pd1.mul pc2).mul pzL) (by decide) (by decide) (by decide)
    obtain ⟨hx, hn⟩ := hx
    obtain ⟨na, nb, nc, nd, ea, eb, ec, ed, nl, el⟩ := hx
    simp only [er_pmul, er_padd, er_psc, ea, eb, ec, ed, neg1, gm, go]
    generalize er [1, 1] x = l at *
    generalize fr x = f at *
    generalize er a2 x = p at *
    generalize er b2 x = q at *
    generalize er c2 x = u at *
    generalize er d2 x = v at *
    generalize a x = a at *
    generalize b x = b at *
    generalize c x = c at *
    generalize d x = d at *
    exact ⟨by (repeat' apply mne) <;> assumption, by grind⟩
  u4 := by
    refine sbq (A := (pmul c1 d2)) (Q := (pmul (pmul c2 d1) [1, 1])) ((HH.and hn).mono fun x hx => ?_) (pc1.mul pd2) ((pc2.mul pd1).mul pzL) (by decide) (by decide) (by decide)
    obtain ⟨hx, hn⟩ := hx
    obtain ⟨na, nb, nc, nd, ea, eb, ec, ed, nl, el⟩ := hx
    simp only [er_pmul, er_padd, er_psc, ea, eb, ec, ed, neg1, gm, go]
    generalize er [1, 1] x = l at *
    generalize fr x = f at *
    generalize er a2 x = p at *
    generalize er b2 x = q at *
    generalize er c2 x = u at *
    generalize er d2 x = v at *
    generalize a x = a at *
    generalize b x = b at *
    generalize c x = c at *
    generalize d x = d at *
    exact ⟨by (repeat' apply mne) <;> assumption, by grind⟩
theorem la_base {a b c d : Int → Rat} {A B C E D : List Int} (HH : Evt fun x => L4 a b c d A B C E D x) (pA : Pz A 3 864) (pB : Pz B 3 864) (pC : Pz C 3 864) (pE : Pz E 3 864) (pD : Pz D 3 864) : Base4 a b c d where
  sa := by
    refine sbq (A := A) (Q := D) (HH.mono fun x hx => ?_) pA pD (by decide) (by decide) (by decide)
    have hx := hx
    obtain ⟨nD, eA, eB, eC, eE, em, nl, el⟩ := hx
    simp only [er_pmul, er_padd, er_psc, eA, eB, eC, eE, neg1, gm, go]
    generalize er [1, 1] x = l at *
    generalize fr x = f at *
    generalize er D x = p at *
    generalize a x = a at *
    generalize b x = b at *
    generalize c x = c at *
    generalize d x = d at *
    exact ⟨by (repeat' apply mne) <;> assumption, by grind⟩
  sb := by
    refine sbq (A := B) (Q := D) (HH.mono fun x hx => ?_) pB pD (by decide) (by decide) (by decide)
    have hx := hx
    obtain ⟨nD, eA, eB, eC, eE, em, nl, el⟩ := hx
    simp only [er_pmul, er_padd, er_psc, eA, eB, eC, eE, neg1, gm, go]
    generalize er [1, 1] x = l at *
    generalize fr x = f at *
    generalize er D x = p at *
    generalize a x = a at *
    generalize b x = b at *
    generalize c x = c at *
    generalize d x = d at *
    exact ⟨by (repeat' apply mne) <;> assumption, by grind⟩
  sc := by
    refine sbq (A := C) (Q := D) (HH.mono fun x hx => ?_) pC pD (by decide) (by decide) (by decide)
    have hx := hx
    obtain ⟨nD, eA, eB, eC, eE, em, nl, el⟩ := hx
    simp only [er_pmul, er_padd, er_psc, eA, eB, eC, eE, neg1, gm, go]
    generalize er [1, 1] x = l at *
    generalize fr x = f at *
    generalize er D x = p at *
    generalize a x = a at *
    generalize b x = b at *
    generalize c x = c at *
    generalize d x = d at *
    exact ⟨by (repeat' apply mne) <;> assumption, by grind⟩
  sd := by
    refine sbq (A := E) (Q := D) (HH.mono fun x hx => ?_) pE pD (by decide) (by decide) (by decide)
    have hx := hx
    obtain ⟨nD, eA, eB, eC, eE, em, nl, el⟩ := hx
    simp only [er_pmul, er_padd, er_psc, eA, eB, eC, eE, neg1, gm, go]
    generalize er [1, 1] x = l at *
    generalize fr x = f at *
    generalize er D x = p at *
    generalize a x = a at *
    generalize b x = b at *
    generalize c x = c at *
    generalize d x = d at *
    exact ⟨by (repeat' apply mne) <;> assumption, by grind⟩
  ad := by
    refine sbq (A := (pmul A E)) (Q := (pmul D D)) (HH.mono fun x hx => ?_) (pA.mul pE) (pD.mul pD) (by decide) (by decide) (by decide)
    have hx := hx
    obtain ⟨nD, eA, eB, eC, eE, em, nl, el⟩ := hx
    simp only [er_pmul, er_padd, er_psc, eA, eB, eC, eE, neg1, gm, go]
    generalize er [1, 1] x = l at *
    generalize fr x = f at *
    generalize er D x = p at *
    generalize a x = a at *
    generalize b x = b at *
    generalize c x = c at *
    generalize d x = d at *
    exact ⟨by (repeat' apply mne) <;> assumption, by grind⟩
  bc := by
    refine sbq (A := (pmul B C)) (Q := (pmul D D)) (HH.mono fun x hx => ?_) (pB.mul pC) (pD.mul pD) (by decide) (by decide) (by decide)
    have hx := hx
    obtain ⟨nD, eA, eB, eC, eE, em, nl, el⟩ := hx
    simp only [er_pmul, er_padd, er_psc, eA, eB, eC, eE, neg1, gm, go]
    generalize er [1, 1] x = l at *
    generalize fr x = f at *
    generalize er D x = p at *
    generalize a x = a at *
    generalize b x = b at *
    generalize c x = c at *
    generalize d x = d at *
    exact ⟨by (repeat' apply mne) <;> assumption, by grind⟩
  m := by
    refine sbq (A := D) (Q := D) (HH.mono fun x hx => ?_) pD pD (by decide) (by decide) (by decide)
    have hx := hx
    obtain ⟨nD, eA, eB, eC, eE, em, nl, el⟩ := hx
    simp only [er_pmul, er_padd, er_psc, eA, eB, eC, eE, neg1, gm, go]
    generalize er [1, 1] x = l at *
    generalize fr x = f at *
    generalize er D x = p at *
    generalize a x = a at *
    generalize b x = b at *
    generalize c x = c at *
    generalize d x = d at *
    exact ⟨by (repeat' apply mne) <;> assumption, by grind⟩
  af := by
    refine sbq (A := A) (Q := (pmul D [1, 1])) (HH.mono fun x hx => ?_) pA (pD.mul pzL) (by decide) (by decide) (by decide)
    have hx := hx
    obtain ⟨nD, eA, eB, eC, eE, em, nl, el⟩ := hx
    simp only [er_pmul, er_padd, er_psc, eA, eB, eC, eE, neg1, gm, go]
    generalize er [1, 1] x = l at *
    generalize fr x = f at *
    generalize er D x = p at *
    generalize a x = a at *
    generalize b x = b at *
    generalize c x = c at *
    generalize d x = d at *
    exact ⟨by (repeat' apply mne) <;> assumption, by grind⟩
  cf := by
    refine sbq (A := C) (Q := (pmul D [1, 1])) (HH.mono fun x hx => ?_) pC (pD.mul pzL) (by decide) (by decide) (by decide)
    have hx := hx
    obtain ⟨nD, eA, eB, eC, eE, em, nl, el⟩ := hx
    simp only [er_pmul, er_padd, er_psc, eA, eB, eC, eE, neg1, gm, go]
    generalize er [1, 1] x = l at *
    generalize fr x = f at *
    generalize er D x = p at *
    generalize a x = a at *
    generalize b x = b at *
    generalize c x = c at *
    generalize d x = d at *
    exact ⟨by (repeat' apply mne) <;> assumption, by grind⟩
  out := by
    refine sbq (A := (padd A (pmul B [1, 1]))) (Q := (pmul D [1, 1])) (HH.mono fun x hx => ?_) (pA.add (pB.mul pzL)) (pD.mul pzL) (by decide) (by decide) (by decide)
    have hx := hx
    obtain ⟨nD, eA, eB, eC, eE, em, nl, el⟩ := hx
    simp only [er_pmul, er_padd, er_psc, eA, eB, eC, eE, neg1, gm, go]
    generalize er [1, 1] x = l at *
    generalize fr x = f at *
    generalize er D x = p at *
    generalize a x = a at *
    generalize b x = b at *
    generalize c x = c at *
    generalize d x = d at *
    exact ⟨by (repeat' apply mne) <;> assumption, by grind⟩
  there := by
    refine sbq (A := (padd C (pmul E [1, 1]))) (Q := (pmul D [1, 1])) (HH.mono fun x hx => ?_) (pC.add (pE.mul pzL)) (pD.mul pzL) (by decide) (by decide) (by decide)
    have hx := hx
    obtain ⟨nD, eA, eB, eC, eE, em, nl, el⟩ := hx
    simp only [er_pmul, er_padd, er_psc, eA, eB, eC, eE, neg1, gm, go]
    generalize er [1, 1] x = l at *
    generalize fr x = f at *
    generalize er D x = p at *
    generalize a x = a at *
    generalize b x = b at *
    generalize c x = c at *
    generalize d x = d at *
    exact ⟨by (repeat' apply mne) <;> assumption, by grind⟩
theorem la_c {a b c d : Int → Rat} {A B C E D : List Int} (HH : Evt fun x => L4 a b c d A B C E D x) (pA : Pz A 3 864) (pB : Pz B 3 864) (pC : Pz C 3 864) (pE : Pz E 3 864) (pD : Pz D 3 864) (hn : Nz c) : PlanC a b c d where
  ac := by
    refine sbq (A := A) (Q := C) ((HH.and hn).mono fun x hx => ?_) pA pC (by decide) (by decide) (by decide)
    obtain ⟨hx, hn⟩ := hx
    obtain ⟨nD, eA, eB, eC, eE, em, nl, el⟩ := hx
    simp only [er_pmul, er_padd, er_psc, eA, eB, eC, eE, neg1, gm, go]
    generalize er [1, 1] x = l at *
    generalize fr x = f at *
    generalize er D x = p at *
    generalize a x = a at *
    generalize b x = b at *
    generalize c x = c at *
    generalize d x = d at *
    exact ⟨by (repeat' apply mne) <;> assumption, by grind⟩
  bc := by
    refine sbq (A := B) (Q := C) ((HH.and hn).mono fun x hx => ?_) pB pC (by decide) (by decide) (by decide)
    obtain ⟨hx, hn⟩ := hx
    obtain ⟨nD, eA, eB, eC, eE, em, nl, el⟩ := hx
    simp only [er_pmul, er_padd, er_psc, eA, eB, eC, eE, neg1, gm, go]
    generalize er [1, 1] x = l at *
    generalize fr x = f at *
    generalize er D x = p at *
    generalize a x = a at *
    generalize b x = b at *
    generalize c x = c at *
    generalize d x = d at *
    exact ⟨by (repeat' apply mne) <;> assumption, by grind⟩
  dc := by
    refine sbq (A := E) (Q := C) ((HH.and hn).mono fun x hx => ?_) pE pC (by decide) (by decide) (by decide)
    obtain ⟨hx, hn⟩ := hx
    obtain ⟨nD, eA, eB, eC, eE, em, nl, el⟩ := hx
    simp only [er_pmul, er_padd, er_psc, eA, eB, eC, eE, neg1, gm, go]
    generalize er [1, 1] x = l at *
    generalize fr x = f at *
    generalize er D x = p at *
    generalize a x = a at *
    generalize b x = b at *
    generalize c x = c at *
    generalize d x = d at *
    exact ⟨by (repeat' apply mne) <;> assumption, by grind⟩
  mc := by
    refine sbq (A := D) (Q := C) ((HH.and hn).mono fun x hx => ?_) pD pC (by decide) (by decide) (by decide)
    obtain ⟨hx, hn⟩ := hx
    obtain ⟨nD, eA, eB, eC, eE, em, nl, el⟩ := hx
    simp only [er_pmul, er_padd, er_psc, eA, eB, eC, eE, neg1, gm, go]
    generalize er [1, 1] x = l at *
    generalize fr x = f at *
    generalize er D x = p at *
    generalize a x = a at *
    generalize b x = b at *
    generalize c x = c at *
    generalize d x = d at *
    exact ⟨by (repeat' apply mne) <;> assumption, by grind⟩
  adc := by
    refine sbq (A := (pmul A E)) (Q := (pmul C C)) ((HH.and hn).mono fun x hx => ?_) (pA.mul pE) (pC.mul pC) (by decide) (by decide) (by decide)
    obtain ⟨hx, hn⟩ := hx
    obtain ⟨nD, eA, eB, eC, eE, em, nl, el⟩ := hx
    simp only [er_pmul, er_padd, er_psc, eA, eB, eC, eE, neg1, gm, go]
    generalize er [1, 1] x = l at *
    generalize fr x = f at *
    generalize er D x = p at *
    generalize a x = a at *
    generalize b x = b at *
    generalize c x = c at *
    generalize d x = d at *
    exact ⟨by (repeat' apply mne) <;> assumption, by grind⟩
  mcc := by
    refine sbq (A := (pmul D D)) (Q := (pmul C C)) ((HH.and hn).mono fun x hx => ?_) (pD.mul pD) (pC.mul pC) (by decide) (by decide) (by decide)
    obtain ⟨hx, hn⟩ := hx
    obtain ⟨nD, eA, eB, eC, eE, em, nl, el⟩ := hx
    simp only [er_pmul, er_padd, er_psc, eA, eB, eC, eE, neg1, gm, go]
    generalize er [1, 1] x = l at *
    generalize fr x = f at *
    generalize er D x = p at *
    generalize a x = a at *
    generalize b x = b at *
    generalize c x = c at *
    generalize d x = d at *
    exact ⟨by (repeat' apply mne) <;> assumption, by grind⟩
  t7 := by
    refine sbq (A := (pmul A (padd C (pmul E [1, 1])))) (Q := (pmul (pmul C D) [1, 1])) ((HH.and hn).mono fun x hx => ?_) (pA.mul (pC.add (pE.mul pzL))) ((pC.mul pD).mul pzL) (by decide) (by decide) (by decide)
    obtain ⟨hx, hn⟩ := hx
    obtain ⟨nD, eA, eB, eC, eE, em, nl, el⟩ := hx
    simp only [er_pmul, er_padd, er_psc, eA, eB, eC, eE, neg1, gm, go]
    generalize er [1, 1] x = l at *
    generalize fr x = f at *
    generalize er D x = p at *
    generalize a x = a at *
    generalize b x = b at *
    generalize c x = c at *
    generalize d x = d at *
    exact ⟨by (repeat' apply mne) <;> assumption, by grind⟩
  t4 := by
    refine sbq (A := (padd C (pmul E [1, 1]))) (Q := (pmul C [1, 1])) ((HH.and hn).mono fun x hx => ?_) (pC.add (pE.mul pzL)) (pC.mul pzL) (by decide) (by decide) (by decide)
    obtain ⟨hx, hn⟩ := hx
    obtain ⟨nD, eA, eB, eC, eE, em, nl, el⟩ := hx
    simp only [er_pmul, er_padd, er_psc, eA, eB, eC, eE, neg1, gm, go]
    generalize er [1, 1] x = l at *
    generalize fr x = f at *
    generalize er D x = p at *
    generalize a x = a at *
    generalize b x = b at *
    generalize c x = c at *
    generalize d x = d at *
    exact ⟨by (repeat' apply mne) <;> assumption, by grind⟩
theorem la_b {a b c d : Int → Rat} {A B C E D : List Int} (HH : Evt fun x => L4 a b c d A B C E D x) (pA : Pz A 3 864) (pB : Pz B 3 864) (pC : Pz C 3 864) (pE : Pz E 3 864) (pD : Pz D 3 864) (hn : Nz b) : PlanB a b c d where
  db := by
    refine sbq (A := E) (Q := B) ((HH.and hn).mono fun x hx => ?_) pE pB (by decide) (by decide) (by decide)
    obtain ⟨hx, hn⟩ := hx
    obtain ⟨nD, eA, eB, eC, eE, em, nl, el⟩ := hx
    simp only [er_pmul, er_padd, er_psc, eA, eB, eC, eE, neg1, gm, go]
    generalize er [1, 1] x = l at *
    generalize fr x = f at *
    generalize er D x = p at *
    generalize a x = a at *
    generalize b x = b at *
    generalize c x = c at *
    generalize d x = d at *
    exact ⟨by (repeat' apply mne) <;> assumption, by grind⟩
  cb := by
    refine sbq (A := C) (Q := B) ((HH.and hn).mono fun x hx => ?_) pC pB (by decide) (by decide) (by decide)
    obtain ⟨hx, hn⟩ := hx
    obtain ⟨nD, eA, eB, eC, eE, em, nl, el⟩ := hx
    simp only [er_pmul, er_padd, er_psc, eA, eB, eC, eE, neg1, gm, go]
    generalize er [1, 1] x = l at *
    generalize fr x = f at *
    generalize er D x = p at *
    generalize a x = a at *
    generalize b x = b at *
    generalize c x = c at *
    generalize d x = d at *
    exact ⟨by (repeat' apply mne) <;> assumption, by grind⟩
  ab := by
    refine sbq (A := A) (Q := B) ((HH.and hn).mono fun x hx => ?_) pA pB (by decide) (by decide) (by decide)
    obtain ⟨hx, hn⟩ := hx
    obtain ⟨nD, eA, eB, eC, eE, em, nl, el⟩ := hx
    simp only [er_pmul, er_padd, er_psc, eA, eB, eC, eE, neg1, gm, go]
    generalize er [1, 1] x = l at *
    generalize fr x = f at *
    generalize er D x = p at *
    generalize a x = a at *
    generalize b x = b at *
    generalize c x = c at *
    generalize d x = d at *
    exact ⟨by (repeat' apply mne) <;> assumption, by grind⟩
  mb := by
    refine sbq (A := D) (Q := B) ((HH.and hn).mono fun x hx => ?_) pD pB (by decide) (by decide) (by decide)
    obtain ⟨hx, hn⟩ := hx
    obtain ⟨nD, eA, eB, eC, eE, em, nl, el⟩ := hx
    simp only [er_pmul, er_padd, er_psc, eA, eB, eC, eE, neg1, gm, go]
    generalize er [1, 1] x = l at *
    generalize fr x = f at *
    generalize er D x = p at *
    generalize a x = a at *
    generalize b x = b at *
    generalize c x = c at *
    generalize d x = d at *
    exact ⟨by (repeat' apply mne) <;> assumption, by grind⟩
  dab := by
    refine sbq (A := (pmul E A)) (Q := (pmul B B)) ((HH.and hn).mono fun x hx => ?_) (pE.mul pA) (pB.mul pB) (by decide) (by decide) (by decide)
    obtain ⟨hx, hn⟩ := hx
    obtain ⟨nD, eA, eB, eC, eE, em, nl, el⟩ := hx
    simp only [er_pmul, er_padd, er_psc, eA, eB, eC, eE, neg1, gm, go]
    generalize er [1, 1] x = l at *
    generalize fr x = f at *
    generalize er D x = p at *
    generalize a x = a at *
    generalize b x = b at *
    generalize c x = c at *
    generalize d x = d at *
    exact ⟨by (repeat' apply mne) <;> assumption, by grind⟩
  mbb := by
    refine sbq (A := (pmul D D)) (Q := (pmul B B)) ((HH.and hn).mono fun x hx => ?_) (pD.mul pD) (pB.mul pB) (by decide) (by decide) (by decide)
    obtain ⟨hx, hn⟩ := hx
    obtain ⟨nD, eA, eB, eC, eE, em, nl, el⟩ := hx
    simp only [er_pmul, er_padd, er_psc, eA, eB, eC, eE, neg1, gm, go]
    generalize er [1, 1] x = l at *
    generalize fr x = f at *
    generalize er D x = p at *
    generalize a x = a at *
    generalize b x = b at *
    generalize c x = c at *
    generalize d x = d at *
    exact ⟨by (repeat' apply mne) <;> assumption, by grind⟩
  t7 := by
    refine sbq (A := (pmul E (padd A (pmul B [1, 1])))) (Q := (pmul (pmul B D) [1, 1])) ((HH.and hn).mono fun x hx => ?_) (pE.mul (pA.add (pB.mul pzL))) ((pB.mul pD).mul pzL) (by decide) (by decide) (by decide)
    obtain ⟨hx, hn⟩ := hx
    obtain ⟨nD, eA, eB, eC, eE, em, nl, el⟩ := hx
    simp only [er_pmul, er_padd, er_psc, eA, eB, eC, eE, neg1, gm, go]
    generalize er [1, 1] x = l at *
    generalize fr x = f at *
    generalize er D x = p at *
    generalize a x = a at *
    generalize b x = b at *
    generalize c x = c at *
    generalize d x = d at *
    exact ⟨by (repeat' apply mne) <;> assumption, by grind⟩
  t5 := by
    refine sbq (A := D) (Q := (pmul B [1, 1])) ((HH.and hn).mono fun x hx => ?_) pD (pB.mul pzL) (by decide) (by decide) (by decide)
    obtain ⟨hx, hn⟩ := hx
    obtain ⟨nD, eA, eB, eC, eE, em, nl, el⟩ := hx
    simp only [er_pmul, er_padd, er_psc, eA, eB, eC, eE, neg1, gm, go]
    generalize er [1, 1] x = l at *
    generalize fr x = f at *
    generalize er D x = p at *
    generalize a x = a at *
    generalize b x = b at *
    generalize c x = c at *
    generalize d x = d at *
    exact ⟨by (repeat' apply mne) <;> assumption, by grind⟩
  t4 := by
    refine sbq (A := (padd A (pmul B [1, 1]))) (Q := (pmul B [1, 1])) ((HH.and hn).mono fun x hx => ?_) (pA.add (pB.mul pzL)) (pB.mul pzL) (by decide) (by decide) (by decide)
    obtain ⟨hx, hn⟩ := hx
    obtain ⟨nD, eA, eB, eC, eE, em, nl, el⟩ := hx
    simp only [er_pmul, er_padd, er_psc, eA, eB, eC, eE, neg1, gm, go]
    generalize er [1, 1] x = l at *
    generalize fr x = f at *
    generalize er D x = p at *
    generalize a x = a at *
    generalize b x = b at *
    generalize c x = c at *
    generalize d x = d at *
    exact ⟨by (repeat' apply mne) <;> assumption, by grind⟩
  u4 := by
    refine sbq (A := A) (Q := (pmul B [1, 1])) ((HH.and hn).mono fun x hx => ?_) pA (pB.mul pzL) (by decide) (by decide) (by decide)
    obtain ⟨hx, hn⟩ := hx
    obtain ⟨nD, eA, eB, eC, eE, em, nl, el⟩ := hx
    simp only [er_pmul, er_padd, er_psc, eA, eB, eC, eE, neg1, gm, go]
    generalize er [1, 1] x = l at *
    generalize fr x = f at *
    generalize er D x = p at *
    generalize a x = a at *
    generalize b x = b at *
    generalize c x = c at *
    generalize d x = d at *
    exact ⟨by (repeat' apply mne) <;> assumption, by grind⟩
theorem la_d {a b c d : Int → Rat} {A B C E D : List Int} (HH : Evt fun x => L4 a b c d A B C E D x) (pA : Pz A 3 864) (pB : Pz B 3 864) (pC : Pz C 3 864) (pE : Pz E 3 864) (pD : Pz D 3 864) (hn : Nz d) : PlanD a b c d where
  bd := by
    refine sbq (A := B) (Q := E) ((HH.and hn).mono fun x hx => ?_) pB pE (by decide) (by decide) (by decide)
    obtain ⟨hx, hn⟩ := hx
    obtain ⟨nD, eA, eB, eC, eE, em, nl, el⟩ := hx
    simp only [er_pmul, er_padd, er_psc, eA, eB, eC, eE, neg1, gm, go]
    generalize er [1, 1] x = l at *
    generalize fr x = f at *
    generalize er D x = p at *
    generalize a x = a at *
    generalize b x = b at *
    generalize c x = c at *
    generalize d x = d at *
    exact ⟨by (repeat' apply mne) <;> assumption, by grind⟩
  cd := by
    refine sbq (A := C) (Q := E) ((HH.and hn).mono fun x hx => ?_) pC pE (by decide) (by decide) (by decide)
    obtain ⟨hx, hn⟩ := hx
    obtain ⟨nD, eA, eB, eC, eE, em, nl, el⟩ := hx
    simp only [er_pmul, er_padd, er_psc, eA, eB, eC, eE, neg1, gm, go]
    generalize er [1, 1] x = l at *
    generalize fr x = f at *
    generalize er D x = p at *
    generalize a x = a at *
    generalize b x = b at *
    generalize c x = c at *
    generalize d x = d at *
    exact ⟨by (repeat' apply mne) <;> assumption, by grind⟩
  md := by
    refine sbq (A := D) (Q := E) ((HH.and hn).mono fun x hx => ?_) pD pE (by decide) (by decide) (by decide)
    obtain ⟨hx, hn⟩ := hx
    obtain ⟨nD, eA, eB, eC, eE, em, nl, el⟩ := hx
    simp only [er_pmul, er_padd, er_psc, eA, eB, eC, eE, neg1, gm, go]
    generalize er [1, 1] x = l at *
    generalize fr x = f at *
    generalize er D x = p at *
    generalize a x = a at *
    generalize b x = b at *
    generalize c x = c at *
    generalize d x = d at *
    exact ⟨by (repeat' apply mne) <;> assumption, by grind⟩
  t7 := by
    refine sbq (A := (pmul B (padd C (pmul E [1, 1])))) (Q := (pmul (pmul E D) [1, 1])) ((HH.and hn).mono fun x hx => ?_) (pB.mul (pC.add (pE.mul pzL))) ((pE.mul pD).mul pzL) (by decide) (by decide) (by decide)
    obtain ⟨hx, hn⟩ := hx
    obtain ⟨nD, eA, eB, eC, eE, em, nl, el⟩ := hx
    simp only [er_pmul, er_padd, er_psc, eA, eB, eC, eE, neg1, gm, go]
    generalize er [1, 1] x = l at *
    generalize fr x = f at *
    generalize er D x = p at *
    generalize a x = a at *
    generalize b x = b at *
    generalize c x = c at *
    generalize d x = d at *
    exact ⟨by (repeat' apply mne) <;> assumption, by grind⟩
  t5 := by
    refine sbq (A := D) (Q := (pmul E [1, 1])) ((HH.and hn).mono fun x hx => ?_) pD (pE.mul pzL) (by decide) (by decide) (by decide)
    obtain ⟨hx, hn⟩ := hx
    obtain ⟨nD, eA, eB, eC, eE, em, nl, el⟩ := hx
    simp only [er_pmul, er_padd, er_psc, eA, eB, eC, eE, neg1, gm, go]
    generalize er [1, 1] x = l at *
    generalize fr x = f at *
    generalize er D x = p at *
    generalize a x = a at *
    generalize b x = b at *
    generalize c x = c at *
    generalize d x = d at *
    exact ⟨by (repeat' apply mne) <;> assumption, by grind⟩
  t4 := by
    refine sbq (A := (padd C (pmul E [1, 1]))) (Q := (pmul E [1, 1])) ((HH.and hn).mono fun x hx => ?_) (pC.add (pE.mul pzL)) (pE.mul pzL) (by decide) (by decide) (by decide)
    obtain ⟨hx, hn⟩ := hx
    obtain ⟨nD, eA, eB, eC, eE, em, nl, el⟩ := hx
    simp only [er_pmul, er_padd, er_psc, eA, eB, eC, eE, neg1, gm, go]
    generalize er [1, 1] x = l at *
    generalize fr x = f at *
    generalize er D x = p at *
    generalize a x = a at *
    generalize b x = b at *
    generalize c x = c at *
    generalize d x = d at *
    exact ⟨by (repeat' apply mne) <;> assumption, by grind⟩
  u4 := by
    refine sbq (A := C) (Q := (pmul E [1, 1])) ((HH.and hn).mono fun x hx => ?_) pC (pE.mul pzL) (by decide) (by decide) (by decide)
    obtain ⟨hx, hn⟩ := hx
    obtain ⟨nD, eA, eB, eC, eE, em, nl, el⟩ := hx
    simp only [er_pmul, er_padd, er_psc, eA, eB, eC, eE, neg1, gm, go]
    generalize er [1, 1] x = l at *
    generalize fr x = f at *
    generalize er D x = p at *
    generalize a x = a at *
    generalize b x = b at *
    generalize c x = c at *
    generalize d x = d at *
    exact ⟨by (repeat' apply mne) <;> assumption, by grind⟩
structure Drn (a b c d : Int → Rat) : Prop where
  a : Dr1 a
  b : Dr1 b
  c : Dr1 c
  d : Dr1 d
theorem Drn.base {a b c d : Int → Rat} (h : Drn a b c d) : Base4 a b c d := by
  obtain ⟨⟨a1, a2, Ra, pa1, pa2⟩, ⟨b1, b2, Rb, pb1, pb2⟩, ⟨c1, c2, Rc, pc1, pc2⟩, ⟨d1, d2, Rd, pd1, pd2⟩⟩ := h
  exact dr_base (((Ra.and Rb).and ((Rc.and Rd).and evt_L)).mono fun x ⟨⟨ha, hb⟩, ⟨hc, hd⟩, hl⟩ => ⟨ha.1, hb.1, hc.1, hd.1, ha.2.symm, hb.2.symm, hc.2.symm, hd.2.symm, hl.1, hl.2⟩) pa1 pa2 pb1 pb2 pc1 pc2 pd1 pd2
theorem Drn.plan {a b c d : Int → Rat} (h : Drn a b c d) (n : Nz (gm a b c d)) : Plan a b c d := by
  obtain ⟨⟨a1, a2, Ra, pa1, pa2⟩, ⟨b1, b2, Rb, pb1, pb2⟩, ⟨c1, c2, Rc, pc1, pc2⟩, ⟨d1, d2, Rd, pd1, pd2⟩⟩ := id h
  have HH : Evt fun x => D4 a b c d a1 a2 b1 b2 c1 c2 d1 d2 x := ((Ra.and Rb).and ((Rc.and Rd).and evt_L)).mono fun x ⟨⟨ha, hb⟩, ⟨hc, hd⟩, hl⟩ => ⟨ha.1, hb.1, hc.1, hd.1, ha.2.symm, hb.2.symm, hc.2.symm, hd.2.symm, hl.1, hl.2⟩
  exact ⟨h.base, n, fun hn => dr_c HH pa1 pa2 pb1 pb2 pc1 pc2 pd1 pd2 hn, fun hn => dr_b HH pa1 pa2 pb1 pb2 pc1 pc2 pd1 pd2 hn, fun hn => dr_d HH pa1 pa2 pb1 pb2 pc1 pc2 pd1 pd2 hn⟩
theorem Lad.plan {s : Nat} {a b c d : Int → Rat} (h : Lad 3 s 864 a b c d) : Plan a b c d := by
  obtain ⟨A, B, C, E, D, H, ⟨pA, pB, pC, pE, pD⟩, _, _, _⟩ := h
  have HH : Evt fun x => L4 a b c d A B C E D x := (H.and evt_L).mono fun x ⟨h, hl⟩ => ⟨h.1, h.2.1.symm, h.2.2.1.symm, h.2.2.2.1.symm, h.2.2.2.2.1.symm, h.2.2.2.2.2, hl.1, hl.2⟩
  exact ⟨la_base HH pA pB pC pE pD, H.mono fun x h => by show a x * d x - b x * c x ≠ 0; rw [h.2.2.2.2.2]; decide, fun hn => la_c HH pA pB pC pE pD hn, fun hn => la_b HH pA pB pC pE pD hn, fun hn => la_d HH pA pB pC pE pD hn⟩
end PQ
end
section
set_option Elab.async false
set_option linter.all false
set_option maxRecDepth 100000
set_option maxHeartbeats 4000000
namespace CN
open PySem PySem.Spec PyProof.Rows L2

/-! ### enumerate over a tuple -/
theorem meets_enumT {v : Value} {oi : Obj} {Hp0 : Heap → Prop} (B : Begins v oi Hp0) :
    Meets (Builtin.«enumerate.__new__» ⟨[.type "enumerate", v], []⟩) (fun _ R s => Hp0 s.heap ∧
      R (.ok (.ret (.ref (s.heap.push oi).objs.size))) { s with heap := (s.heap.push oi).push { cls := .type "enumerate", data := .fields #[.none, .bool false, .ref s.heap.objs.size, rawInt 0, .none, .none] } }) :=
  .of_wp fun prog w A R s hh => by
    obtain ⟨hp, gg, dd, tt, oo⟩ := s
    obtain ⟨b1, b2⟩ := hh
    have hsub := sub_enumerate
    have it1 : ∀ {A' : Around} {E : Value → Shared → Prop} {Q : Value → Shared → Prop}, Q (.ref hp.objs.size) ⟨hp.push oi, gg, dd, tt, oo⟩ → wpAny (model prog w) A' (pyIter v) Q E ⟨hp, gg, dd, tt, oo⟩ :=
      fun z => B.iter prog w _ _ ⟨hp, gg, dd, tt, oo⟩ _ b1 z
    wp_walk using it1
    refine wpAny_stack_any fun _ => wpAny_pure ?_
    split
    · rename_i cc _ _ _ _ _
      cases (cc == Value.type "enumerate") <;> (wp_walk using it1; exact ⟨_, rfl, b2⟩)
    · wp_walk using it1
      exact ⟨_, rfl, b2⟩
theorem call_enumT {prog : Program} {w : World} {A : Around} {E : Value → Shared → Prop} {s : Shared} {v : Value} {oi : Obj} {Hp0 : Heap → Prop} {Q : Value → Shared → Prop} (B : Begins v oi Hp0) (b1 : Hp0 s.heap)
    (k : ∀ h', IsEnum h' (s.heap.objs.size + 1) s.heap.objs.size 0 .none → h'.get? s.heap.objs.size = some oi → (∀ b o, s.heap.get? b = some o → h'.get? b = some o) → Q (.ref (s.heap.objs.size + 1)) { s with heap := h' }) :
    wpAny (model prog w) A (call (.type "enumerate") [v]) Q E s := by
  refine callType_new F.called_enumerate (by decide) (PySem.F.typeCall_enumerate_1 _) (PySem.F.newCall_enumerate_1 _) (fun ob => PySem.F.args_object_init_2 ob _) PySem.F.entry_enumerate_new (meets_enumT B) ⟨b1, ?_⟩
  have sz : (s.heap.push oi).objs.size = s.heap.objs.size + 1 := Heap.size_push ..
  show _ ∧ _
  rw [sz]
  have en : IsEnum ((s.heap.push oi).push { cls := .type "enumerate", data := .fields #[.none, .bool false, .ref s.heap.objs.size, rawInt 0, .none, .none] }) (s.heap.objs.size + 1) s.heap.objs.size 0 .none := by
    have z := Heap.get?_push_size (s.heap.push oi) (o := { cls := .type "enumerate", data := .fields #[.none, .bool false, .ref s.heap.objs.size, rawInt 0, .none, .none] }) rfl
    rw [sz] at z
    exact z
  exact ⟨⟨_, en, rfl⟩, k _ en (Heap.get?_push_of_some _ (Heap.get?_push_size _ B.free)) fun b o z => Heap.get?_push_of_some _ (Heap.get?_push_of_some _ z)⟩

/-- the tuple at a, each item in a new pair with its place -/
def IteT (K : PySem.W.Frag) (a : Addr) : It :=
  ⟨fun i H => ∃ (xs : List V) (x : V), SqT K H a xs ∧ xs[i]? = some x, fun i H v H' => ∃ T x, v = .ref T ∧ H T = none ∧ H' = upd H T (.tup [.int (i : Nat), x]) ∧ ∀ xs, SqT K H a xs → xs[i]? = some x, fun i H => ∃ xs : List V, SqT K H a xs ∧ xs.length = i⟩
theorem turn_enumT {P : Program} {w : World} {K : PySem.W.Frag} {elts : List Expr} {kk : Nat} {tpos : Pos} {a e it : Addr} (hai : a ≠ it) (hea : e ≠ a) :
    Turn P w K (.Tuple elts kk tpos) (IteT K a) [e, it] e (fun i h => (∃ old, IsEnum h e it ((i : Nat) : Int) old) ∧ h.IsTupleIter it a i ∧ e ≠ it) where
  mem := by simp
  obj := fun i h st b hb => by
    obtain ⟨⟨old, he⟩, ⟨o, ho, hc, hd⟩, _⟩ := st
    rcases (show b = e ∨ b = it by simpa using hb) with z | z
    · exact z ▸ ⟨_, he, fun v q => nomatch q⟩
    · exact z ▸ ⟨o, ho, fun v q => by rw [hd] at q; cases q⟩
  keep := fun i h h' ⟨⟨old, he⟩, hi, hne⟩ k => ⟨⟨old, k e (by simp) _ he⟩, hi.at fun o q => k it (by simp) o q, hne⟩
  item := by
    intro X hP hw hK hc i pins s σ H E I hf st hg
    subst hP hw hK
    obtain ⟨⟨old, he⟩, hit, hne⟩ := st
    obtain ⟨xs, x, hq, hx⟩ := hg
    obtain ⟨its, rv, p, hz⟩ := I.tuple hq
    obtain ⟨u, hu, ru⟩ := rv.get hx
    have hel : e < s.heap.objs.size := Heap.lt_size he
    have hil : it < s.heap.objs.size := let ⟨_, q, _⟩ := hit; Heap.lt_size q
    have il : i < its.length := by rw [← rv.length]; exact (List.getElem?_eq_some_iff.mp hx).1
    have DT := Draws.tuple (prog := X.prog) (w := X.w) (A := X.A.in1) (I.ok.hd hc) it a hai its.toArray
    refine wpAny_pyNext_enum_itemC DT he ⟨hit, show s.heap.IsTuple a its.toArray from p⟩ (by simpa using il) hne (by simp [hne, hea]) fun y h' tk hy ho hst hT hsz hk => ?_
    obtain rfl : u = y := Option.some.inj (hu.symm.trans (by simpa using hy))
    refine ⟨_, rfl, wpAny_letOwnedTupleGo_enum (s := { s with heap := h', toks := tk + 1 }) ho fun h'' he' sb => ?_⟩
    have hT2 : h''.get? s.heap.objs.size = some { cls := .type "tuple", data := .seq #[.int i tk, u] } := (sb.2 _ (Nat.ne_of_gt hel)).trans hT
    have new : ObjOk X.prog X.w (upd H s.heap.objs.size (.tup [.int (i : Nat), x])) h'' s.heap.objs.size (.tup [.int (i : Nat), x]) :=
      ⟨(by decide : 2 ≤ sizeLine), [.int i tk, u], .cons ⟨_, rfl⟩ (.cons ru .nil), ⟨_, hT2, rfl, _, rfl⟩⟩
    have I1 := I.turnedNew (h' := h'') (t' := tk + 1) (ch := [e, it]) (fun b ob hb q => (sb.2 b fun z => hb (by simp [z])).trans (hk b ob (fun z => hb (by simp [z])) (fun z => hb (by simp [z])) q)) hf (Nat.le_refl _) new
    refine ⟨.ref s.heap.objs.size, _, I1, rfl, ⟨_, x, rfl, I.hok.fresh (Nat.le_refl _), rfl, fun ys hy => by rw [I.tuple_inj hy hq]; exact hx⟩, ⟨⟨u, ?_⟩, hst.1.at fun o q => (sb.2 it (Ne.symm hne)).trans q, hne⟩, fun b hb => ?_⟩
    · rw [show ((i + 1 : Nat) : Int) = (i : Int) + 1 by omega]
      exact he'
    · have hb' : b < s.heap.objs.size := by
        rcases (show b = e ∨ b = it by simpa using hb) with z | z
        · exact z ▸ hel
        · exact z ▸ hil
      rw [upd_ne (Nat.ne_of_lt hb')]
      exact (hf b hb).1
  done := by
    intro X hP hw hK hc i pins s σ H E I hf st hg
    subst hP hw hK
    obtain ⟨⟨old, he⟩, hit, hne⟩ := st
    obtain ⟨xs, hq, hx⟩ := hg
    obtain ⟨its, rv, p, hz⟩ := I.tuple hq
    obtain ⟨f0, f1, f2, f3, f4, f5⟩ := hf it (by simp)
    have DT := Draws.tuple (prog := X.prog) (w := X.w) (A := X.A.in1) (I.ok.hd hc) it a hai its.toArray
    have hn : its.toArray.size = i := by rw [← hx, rv.length]; simp
    exact wpAny_pyNext_enum_endD DT he ⟨by rw [hn]; exact hit, show s.heap.IsTuple a its.toArray from p⟩ fun h' eb => ⟨rfl, I.turned (t' := s.toks) (fun b o hb q => eb b o hb q) f0 f1 f3 f4 f5⟩
  self := fun A i s Q E st h => let ⟨⟨_, he⟩, _⟩ := st; wpAny_pyIter_enum he h
def iEnumT (K : PySem.W.Frag) (ta : TA) : TI := fun σ H R => ta σ H fun vs H1 => ∃ a xs, vs = [.ref a] ∧ SqT K H1 a xs ∧ R (IteT K a) H1
theorem pi_enumT {X : Cx} {e : Expr} {ta : TA} {p pos tpos : Pos} {elts : List Expr} {kk : Nat} (hg : Gl X "enumerate") (hm : X.mg "enumerate" = none) (ha : PA X [e] ta) (hs : starEach [e] X.env = [(false, eval e X.env)] := by rfl) :
    PI X (.Tuple elts kk tpos) (.Call (.Name "enumerate" p) [e] [] pos) (iEnumT X.K ta) := by
  constructor
  intro pins s σ H R I h
  refine Call_ (ld_blt I hg hm boot_enumerate (PyProof.Rows.callWith_type1 (thn (ha.run pos pins s σ H _ I h) fun us s1 ⟨vs, H1, I1, r1, q1⟩ => ?_) hs rfl))
  obtain ⟨a, xs, rfl, hq, q⟩ := q1
  cases r1 with
  | cons r rr =>
    cases rr
    cases r
    obtain ⟨its, rv, p', hz⟩ := I1.tuple hq
    have la : a < s1.heap.objs.size := p'.lt
    refine call_enumT (begins_tuple a its.toArray) (show s1.heap.IsTuple a its.toArray from p') fun h' he hit hk => wpAny_pyIter_enum he ?_
    have I2 : Inv X pins σ H1 { s1 with heap := h' } := I1.kept (t' := s1.toks) hk
    refine ⟨s1.heap.objs.size + 1, [s1.heap.objs.size + 1, s1.heap.objs.size], _, _, H1, rfl, I2, turn_enumT (Nat.ne_of_lt la) (Nat.ne_of_gt (Nat.lt_succ_of_lt la)), ⟨⟨.none, he⟩, ⟨_, hit, rfl, rfl⟩, Nat.succ_ne_self _⟩, fun b hb => ?_, q⟩
    have hle : s1.heap.objs.size ≤ b := by
      rcases (show b = s1.heap.objs.size + 1 ∨ b = s1.heap.objs.size by simpa using hb) with z | z
      · exact z ▸ Nat.le_succ _
      · exact z ▸ Nat.le_refl _
    exact I1.fpOk hle (I1.hok.fresh hle)
end CN
end
section
set_option Elab.async false
set_option linter.all false
set_option maxRecDepth 100000
set_option maxHeartbeats 4000000
namespace CN
open PySem PySem.Spec PyProof.Rows L2
section
variable {X : Cx}
/-- an item of a list, by its place from the front -/
def gLst (K : PySem.W.Frag) : V → V → Hp → VK → Prop := fun o i H Q => ∃ (p : Addr) (xs : List V) (j : Nat) (v : V), o = .ref p ∧ i = .int j ∧ SqL K H p xs ∧ xs[j]? = some v ∧ Q v H
theorem pget_lst : PGet X (gLst X.K) := by
  intro pins s σ H o i ov iv Q I ro ri h
  obtain ⟨p, xs, j, v, rfl, rfl, hq, hv, q⟩ := h
  cases ro
  obtain ⟨t, rfl⟩ := ri
  obtain ⟨its, rv, pl, hz⟩ := I.list hq
  obtain ⟨u, hu, ru⟩ := rv.get hv
  have hj : j < xs.length := (List.getElem?_eq_some_iff.mp hv).1
  have h63 : sizeLine < 2 ^ 63 := by decide
  refine wpAny_getItem_list pl.isList (Int.natCast_nonneg j) (by omega) (x := u) (by simpa using hu) ⟨v, H, I, ru, q⟩
/-- // by any divisor but 0 -/
def PyBase (P : Program) (base : Heap) : Prop := base.NoSeer ∧ P.given.tree = none
theorem op_fdivA {env0 : Env} {l : List Env} (hB : PyBase X.prog X.base) (hs : X.stack = env0 :: l) (hd : X.A.depth + 100 < recursionLimit)
    (g1 : env0.scope.isGenerator = false := by rfl) (g2 : env0.scope.isCoroutine = false := by rfl) (g3 : env0.builtins = builtinsNs := by rfl) (g4 : env0.globals = mainGlobals := by rfl) :
    OpR X (binaryOp .FloorDiv) (rI (fun _ j => j ≠ 0) fun i j => .int (i.fdiv j)) := by
  intro pins s σ H x y v u Q I rx ry h
  obtain ⟨i, j, rfl, rfl, hc, q⟩ := h
  obtain ⟨t, rfl⟩ := rx
  obtain ⟨t', rfl⟩ := ry
  have hf : X.A.frames = some (env0 :: l) := by rw [← hs]; exact I.ok.frames
  have room : PylongRoom (model X.prog X.w) X.A s := PylongRoom.of I.nolimit hd (SeerAt.of (hB.1.keeps I.bk) hB.2 hf g1 g2 g3 g4)
  exact floordiv_int hc ⟨.int (i.fdiv j), H, I.tok _, ⟨_, rfl⟩, q⟩ (.inr room)
end
/-! ### the forms one uses -/
theorem for_enumT {K : PySem.W.Frag} {a : Addr} {xs : List V} {g : TG} {tb : TS} {D : Ends} {σ : L2.St} {H : Hp} (Pv : Nat → L2.St → Hp → Prop) (h0 : Pv 0 σ H) (hl : ∀ i σ H, Pv i σ H → SqT K H a xs)
    (hs : ∀ i x T σ H, xs[i]? = some x → Pv i σ H → H T = none → g (.ref T) σ (upd H T (.tup [.int (i : Nat), x])) fun σ2 H2 => tb { D with nx := Pv (i + 1), ct := Pv (i + 1), bk := D.nx } σ2 H2) (hd : ∀ σ H, Pv xs.length σ H → D.nx σ H) :
    ∃ W : Nat → Nat → L2.St → Hp → Prop, (∃ m, W 0 m σ H) ∧ ∀ i m σ H, W i m σ H →
      ((IteT K a).stop i H ∧ D.nx σ H) ∨ ((IteT K a).go i H ∧ ∃ N : L2.St → Hp → Prop, (∀ σ' H', N σ' H' → ∃ m', m' < m ∧ W (i + 1) m' σ' H') ∧ ∀ x H', (IteT K a).yld i H x H' → g x σ H' fun σ2 H2 => tb { D with nx := N, ct := N, bk := D.nx } σ2 H2) := by
  refine ⟨fun i m σ H => i + m = xs.length ∧ Pv i σ H, ⟨xs.length, by simp, h0⟩, ?_⟩
  rintro i m σ H ⟨hm, p⟩
  have q := hl i σ H p
  by_cases hlt : i < xs.length
  · refine .inr ⟨⟨xs, xs[i], q, by simp [hlt]⟩, Pv (i + 1), fun σ' H' p' => ⟨m - 1, by omega, by omega, p'⟩, fun x H' y => ?_⟩
    obtain ⟨T, z, rfl, nT, rfl, f⟩ := y
    exact hs i z T σ H (f xs q) p nT
  · have e : i = xs.length := by omega
    exact .inl ⟨⟨xs, q, e.symm⟩, hd σ H (e ▸ p)⟩
theorem lc_zip {K : PySem.W.Frag} {a b : Addr} {xs ys : List V} {g : TG} {tt : TT} {te : TE} {vs : List Nat} {σ : L2.St} {H1 : Hp} {D : Addr} {Qd : Hp → Prop} (hlen : xs.length = ys.length) (Pv : Nat → Hp → Prop) (h0 : Pv 0 (upd H1 D (.lst []))) (hl : ∀ i H, Pv i H → SqL K H a xs ∧ SqL K H b ys)
    (hs : ∀ i x y T H, xs[i]? = some x → ys[i]? = some y → Pv i H → H T = none → g (.ref T) (wipe σ vs) (upd H T (.tup [x, y])) fun σ2 H2 => wipe σ2 vs = wipe σ vs ∧ tt σ2 H2 fun b H3 =>
      if b = true then te σ2 H3 fun y H4 => ∃ acc, H4 D = some (.lst acc) ∧ acc.length < sizeLine ∧ Pv (i + 1) (upd H4 D (.lst (acc ++ [y]))) else Pv (i + 1) H3) (hd : ∀ H, Pv xs.length H → Qd H) :
    ∃ W : Nat → Nat → Hp → Prop, (∃ m, W 0 m (upd H1 D (.lst []))) ∧ ∀ i m H, W i m H →
      ((Itz K a b).stop i H ∧ Qd H) ∨ ((Itz K a b).go i H ∧ ∃ Nx : Hp → Prop, (∀ H', Nx H' → ∃ m', m' < m ∧ W (i + 1) m' H') ∧ ∀ x H', (Itz K a b).yld i H x H' → g x (wipe σ vs) H' fun σ2 H2 => wipe σ2 vs = wipe σ vs ∧ tt σ2 H2 fun b H3 =>
        if b = true then te σ2 H3 fun y H4 => ∃ acc, H4 D = some (.lst acc) ∧ acc.length < sizeLine ∧ Nx (upd H4 D (.lst (acc ++ [y]))) else Nx H3) := by
  refine ⟨fun i m H => i + m = xs.length ∧ Pv i H, ⟨xs.length, by simp, h0⟩, ?_⟩
  rintro i m H ⟨hm, p⟩
  obtain ⟨q1, q2⟩ := hl i H p
  by_cases hlt : i < xs.length
  · have hly : i < ys.length := by omega
    refine .inr ⟨⟨xs, ys, xs[i], ys[i], q1, q2, by simp [hlt], by simp [hly]⟩, Pv (i + 1), fun H' p' => ⟨m - 1, by omega, by omega, p'⟩, fun x H' y => ?_⟩
    obtain ⟨T, u, v, rfl, nT, rfl, f1, f2⟩ := y
    exact hs i u v T H (f1 xs q1) (f2 ys q2) p nT
  · have e : i = xs.length := by omega
    exact .inl ⟨⟨xs, ys, q1, q2, .inl (by omega)⟩, hd H (e ▸ p)⟩
end CN
end
section
set_option Elab.async false
set_option linter.all false
set_option maxRecDepth 100000
set_option maxHeartbeats 4000000
namespace CN
open PySem PySem.Spec PyProof.Rows L2 PQ
/-! ### the text -/
def topS (i : Nat) : Stmt := PySem.Challenge.pw_coilnets_k68_whole_matrices_of_chains.main.body.getD i (.Pass ⟨0, 0, 0, 0⟩)
/-! ### defs by their names -/
section
variable (P : Program) (w : World) (K : PySem.W.Frag) (mg : Str → Option Value) (base : Heap)
/-- the def x stands there -/
def Df (x : Str) (st : Stmt) (ps : List Str) : Prop := ∃ (f : Addr) (fd : FuncData), Fun K x x st f fd ∧ mg x = some (.ref f) ∧ Binds K fd ps []
/-- the def x keeps its promise -/
def Ok (k : Nat) (x : Str) (ps : List Str) (sp : Sp) : Prop := ∃ (f : Addr) (fd : FuncData), FnOk P w K mg base CX0 k f fd ps sp ∧ mg x = some (.ref f) ∧ PySem.W.keepIn K (.ref f) = true ∧ Binds K fd ps []
end
section
variable {P : Program} {w : World} {K : PySem.W.Frag} {mg : Str → Option Value} {base : Heap}
theorem Df.ok {x : Str} {st : Stmt} {N ps : List Str} {k : Nat} {sp : Sp} (D : Df K mg x st ps) (S : FnScope N ps (defScope st)) (len : ∀ vs H Q E, sp vs H Q E → vs.length = ps.length)
    (body : ∀ (f : Addr) (cdv : Value) (A : Around) (outer : List Env) (s : Shared) (H : Hp) (vs : List V) (Q : VK) (E : XK), Room k (A.deeper (envOfC x (defScope st) s.heap.objs.size f cdv)) → sp vs H Q E →
      ∃ t, PSs (cxOf CX0 P w K mg base N x (defScope st) f cdv A outer s H E).nox (defBody st) t ∧ t { nx := fun _ H' => Q .non H', rt := Q } (start N vs) H) : Ok P w K mg base (k + 1) x ps sp := by
  obtain ⟨f, fd, F, g, b⟩ := D
  exact ⟨f, fd, F.ok S len (body f), g, F.kp, b⟩
theorem Ok.mono {x : Str} {ps : List Str} {j k : Nat} {sp : Sp} (G : Ok P w K mg base j x ps sp) (h : j ≤ k) : Ok P w K mg base k x ps sp := by
  obtain ⟨f, fd, F, r⟩ := G
  exact ⟨f, fd, F.mono h, r⟩
end
section
variable {X : Cx} {k : Nat} {ps : List Str} {sp : Sp} {x : Str} {p pos : Pos} {e : Expr} {es : List Expr} {t : TA}
theorem pe_ca (G : Ok X.prog X.w X.K X.mg X.base k x ps sp) (hr : Room k X.A) (hg : Gl X x) (ha : PA X (e :: es) t) (hdb : (x == ("__debug__" : Str)) = false := by decide)
    (he : starEach (e :: es) X.env = (false, eval e X.env) :: starEach es X.env := by rfl) (hpl : (backTo pos (starEach es X.env)).any (·.1) = false := by rfl) : PE X (.Call (.Name x p) (e :: es) [] pos) (tCall sp [] E0 t) := by
  obtain ⟨f, fd, F, g, kp, b⟩ := G
  exact pe_call F hr hg g kp b .nil pass0 ha hdb he hpl
end
/-! ### heaps -/
theorem same_upd {H : Hp} {p : Addr} {o : HO} (h : H p = none) : Same H (upd H p o) := fun b x e => by
  rw [upd_ne (ne_of_none e h)]
  exact e
theorem same_sqT {K : PySem.W.Frag} {H H' : Hp} {a : Addr} {xs : List V} (e : Same H H') (h : SqT K H a xs) : SqT K H' a xs := by
  rcases h with (h | ⟨o, h⟩) | h
  · exact .inl (.inl (e _ _ h))
  · exact .inl (.inr ⟨o, e _ _ h⟩)
  · exact .inr h
/-- v is the polynomial p -/
def Pl (K : PySem.W.Frag) (H : Hp) (v : V) (p : List Int) : Prop := ∃ a, v = .ref a ∧ SqT K H a (p.map V.int)
/-- v is the function f -/
def Fv (K : PySem.W.Frag) (H : Hp) (v : V) (f : Fn) : Prop := ∃ a u z, v = .ref a ∧ SqT K H a [u, z] ∧ Pl K H u f.1 ∧ Pl K H z f.2
theorem Pl.same {K : PySem.W.Frag} {H H' : Hp} {v : V} {p : List Int} (h : Pl K H v p) (e : Same H H') : Pl K H' v p := let ⟨a, h1, h2⟩ := h; ⟨a, h1, same_sqT e h2⟩
theorem Fv.same {K : PySem.W.Frag} {H H' : Hp} {v : V} {f : Fn} (h : Fv K H v f) (e : Same H H') : Fv K H' v f := let ⟨a, u, z, h1, h2, h3, h4⟩ := h; ⟨a, u, z, h1, same_sqT e h2, h3.same e, h4.same e⟩
theorem Pl.new {K : PySem.W.Frag} {H : Hp} {a : Addr} {p : List Int} : Pl K (upd H a (.tup (p.map V.int))) (.ref a) p := ⟨a, rfl, .of upd_same⟩
theorem dpInts {K : PySem.W.Frag} {H : Hp} : ∀ p : List Int, DpAll K H (p.map V.int) (p.map PyData.int)
  | [] => .nil
  | a :: p => .cons (.int a) (dpInts p)
def dPl (p : List Int) : PyData := .tuple (p.map PyData.int)
def dFn (f : Fn) : PyData := .tuple [dPl f.1, dPl f.2]
theorem Pl.dp {K : PySem.W.Frag} {H : Hp} {v : V} {p : List Int} (h : Pl K H v p) : Dp K H v (dPl p) := by
  obtain ⟨a, rfl, h⟩ := h
  exact .tup h (dpInts p)
theorem Fv.dp {K : PySem.W.Frag} {H : Hp} {v : V} {f : Fn} (h : Fv K H v f) : Dp K H v (dFn f) := by
  obtain ⟨a, u, z, rfl, h, h1, h2⟩ := h
  exact .tup h (.cons h1.dp (.cons h2.dp .nil))
theorem eqv_ints : ∀ p q : List Int, PyData.eqvAll (p.map PyData.int) (q.map PyData.int) = decide (p = q)
  | [], [] => rfl
  | [], b :: q => by simp [PyData.eqvAll]
  | a :: p, [] => by simp [PyData.eqvAll]
  | a :: p, b :: q => by
    rw [List.map_cons, List.map_cons, PyData.eqvAll, eqv_ints p q, PyData.eqv]
    by_cases h1 : a = b <;> by_cases h2 : p = q <;> simp [h1, h2]
theorem eqv_pl (p q : List Int) : PyData.eqv (dPl p) (dPl q) = decide (p = q) := by
  unfold dPl
  rw [PyData.eqv, eqv_ints]
theorem eqv_fn (f g : Fn) : PyData.eqv (dFn f) (dFn g) = decide (f = g) := by
  obtain ⟨a, b⟩ := f
  obtain ⟨c, d⟩ := g
  unfold dFn
  rw [PyData.eqv, PyData.eqvAll, PyData.eqvAll, PyData.eqvAll, eqv_pl, eqv_pl]
  by_cases h1 : a = c <;> by_cases h2 : b = d <;> simp [h1, h2]
theorem eqv_fns : ∀ p q : List Fn, PyData.eqvAll (p.map dFn) (q.map dFn) = decide (p = q)
  | [], [] => rfl
  | [], b :: q => by simp [PyData.eqvAll]
  | a :: p, [] => by simp [PyData.eqvAll]
  | a :: p, b :: q => by
    rw [List.map_cons, List.map_cons, PyData.eqvAll, eqv_fns p q, eqv_fn]
    by_cases h1 : a = b <;> by_cases h2 : p = q <;> simp [h1, h2]
theorem lay_ints : ∀ p : List Int, PyData.canLayAll0 (p.map PyData.int) = true
  | [] => rfl
  | a :: p => by rw [List.map_cons, PyData.canLayAll0, lay_ints p]; rfl
theorem depth_ints : ∀ p : List Int, PyData.depthAll (p.map PyData.int) = 0
  | [] => rfl
  | a :: p => by rw [List.map_cons, PyData.depthAll, depth_ints p]; rfl
theorem lay_pl (p : List Int) : PyData.canLay0 (dPl p) = true := by unfold dPl; rw [PyData.canLay0]; exact lay_ints p
theorem depth_pl (p : List Int) : PyData.depth (dPl p) = 1 := by unfold dPl; rw [PyData.depth, depth_ints]
theorem shaped_pl (p : List Int) : SeqAt.shaped (dPl p) = true := by unfold SeqAt.shaped; rw [lay_pl, depth_pl]; rfl
theorem lay_fn (f : Fn) : PyData.canLay0 (dFn f) = true := by
  unfold dFn
  rw [PyData.canLay0, PyData.canLayAll0, PyData.canLayAll0, PyData.canLayAll0, lay_pl, lay_pl]; rfl
theorem depth_fn (f : Fn) : PyData.depth (dFn f) = 2 := by
  unfold dFn
  rw [PyData.depth, PyData.depthAll, PyData.depthAll, PyData.depthAll, depth_pl, depth_pl]; rfl
theorem shaped_fn (f : Fn) : SeqAt.shaped (dFn f) = true := by unfold SeqAt.shaped; rw [lay_fn, depth_fn]; rfl
theorem lay_fns : ∀ p : List Fn, PyData.canLayAll0 (p.map dFn) = true
  | [] => rfl
  | a :: p => by rw [List.map_cons, PyData.canLayAll0, lay_fns p, lay_fn]; rfl
theorem depth_fns : ∀ p : List Fn, PyData.depthAll (p.map dFn) ≤ 2
  | [] => by rw [List.map_nil, PyData.depthAll]; omega
  | a :: p => by rw [List.map_cons, PyData.depthAll, depth_fn]; have := depth_fns p; omega
def dFs (p : List Fn) : PyData := .tuple (p.map dFn)
theorem eqv_fs (p q : List Fn) : PyData.eqv (dFs p) (dFs q) = decide (p = q) := by unfold dFs; rw [PyData.eqv, eqv_fns]
theorem shaped_fs (p : List Fn) : SeqAt.shaped (dFs p) = true := by
  unfold SeqAt.shaped dFs
  rw [PyData.canLay0, lay_fns, PyData.depth]
  have := depth_fns p
  simp; omega
/-- comparing two such -/
theorem eq_pl {K : PySem.W.Frag} {H : Hp} {u v : V} {p q : List Int} {Q : VK} (h1 : Pl K H u p) (h2 : Pl K H v q) (h : Q (.bl (decide (p = q))) H) : rEqD K u v H Q := ⟨_, _, h1.dp, h2.dp, shaped_pl p, shaped_pl q, by rw [eqv_pl]; exact h⟩
theorem eq_fn {K : PySem.W.Frag} {H : Hp} {u v : V} {f g : Fn} {Q : VK} (h1 : Fv K H u f) (h2 : Fv K H v g) (h : Q (.bl (decide (f = g))) H) : rEqD K u v H Q := ⟨_, _, h1.dp, h2.dp, shaped_fn f, shaped_fn g, by rw [eqv_fn]; exact h⟩
theorem ne_fn {K : PySem.W.Frag} {H : Hp} {u v : V} {f g : Fn} {Q : VK} (h1 : Fv K H u f) (h2 : Fv K H v g) (h : Q (.bl (!decide (f = g))) H) : rNeD K u v H Q := ⟨_, _, h1.dp, h2.dp, shaped_fn f, shaped_fn g, by rw [eqv_fn]; exact h⟩
/-- several functions in a row -/
def Fvs (K : PySem.W.Frag) (H : Hp) : List V → List Fn → Prop := Paired (Fv K H)
theorem Fvs.same {K : PySem.W.Frag} {H H' : Hp} {us : List V} {fs : List Fn} (h : Fvs K H us fs) (e : Same H H') : Fvs K H' us fs := Paired.mapP h fun _ _ z => z.same e
theorem Fvs.dp {K : PySem.W.Frag} {H : Hp} : ∀ {us : List V} {fs : List Fn}, Fvs K H us fs → DpAll K H us (fs.map dFn)
  | _, _, .nil => .nil
  | _, _, .cons r t => .cons r.dp (Fvs.dp t)
/-- v is a tuple of functions -/
def Ft (K : PySem.W.Frag) (H : Hp) (v : V) (fs : List Fn) : Prop := ∃ a us, v = .ref a ∧ SqT K H a us ∧ Fvs K H us fs
theorem Ft.same {K : PySem.W.Frag} {H H' : Hp} {v : V} {fs : List Fn} (h : Ft K H v fs) (e : Same H H') : Ft K H' v fs := let ⟨a, us, h1, h2, h3⟩ := h; ⟨a, us, h1, same_sqT e h2, h3.same e⟩
theorem Ft.dp {K : PySem.W.Frag} {H : Hp} {v : V} {fs : List Fn} (h : Ft K H v fs) : Dp K H v (dFs fs) := by
  obtain ⟨a, us, rfl, h, h1⟩ := h
  exact .tup h h1.dp
theorem ne_ft {K : PySem.W.Frag} {H : Hp} {u v : V} {f g : List Fn} {Q : VK} (h1 : Ft K H u f) (h2 : Ft K H v g) (h : Q (.bl (!decide (f = g))) H) : rNeD K u v H Q := ⟨_, _, h1.dp, h2.dp, shaped_fs f, shaped_fs g, by rw [eqv_fs]; exact h⟩
end CN
end
section
set_option Elab.async false
set_option linter.all false
set_option maxRecDepth 100000
set_option maxHeartbeats 4000000
namespace CN
open PySem PySem.Spec PyProof.Rows L2 PQ
/-- the names that the text leaves built in, and its one import -/
structure Bi (mg : Str → Option Value) : Prop where
  isinstance : mg "isinstance" = none
  len : mg "len" = none
  int : mg "int" = none
  bool : mg "bool" = none
  tuple : mg "tuple" = none
  list : mg "list" = none
  str : mg "str" = none
  max : mg "max" = none
  abs : mg "abs" = none
  all : mg "all" = none
  zip : mg "zip" = none
  range : mg "range" = none
  enumerate : mg "enumerate" = none
  gcd : mg "gcd" = some (.builtin "math.gcd")
theorem bt_isinstance : bootBuiltins "isinstance" = some (.builtin "isinstance") := by decide +kernel
theorem bt_int : bootBuiltins "int" = some (.type "int") := by decide +kernel
theorem bt_bool : bootBuiltins "bool" = some (.type "bool") := by decide +kernel
theorem bt_tuple : bootBuiltins "tuple" = some (.type "tuple") := by decide +kernel
theorem bt_list : bootBuiltins "list" = some (.type "list") := by decide +kernel
theorem bt_str : bootBuiltins "str" = some (.type "str") := by decide +kernel
theorem bt_len : bootBuiltins "len" = some (.builtin "len") := by decide +kernel
theorem bt_max : bootBuiltins "max" = some (.builtin "max") := by decide +kernel
theorem bt_abs : bootBuiltins "abs" = some (.builtin "abs") := by decide +kernel
theorem bt_all : bootBuiltins "all" = some (.builtin "all") := by decide +kernel
/-! ### calls with plain readings -/
def t1 (r : List V → Hp → VK → Prop) (ta : TE) : TE := fun σ H Q => ta σ H fun x H1 => r [x] H1 Q
def t2 (r : List V → Hp → VK → Prop) (ta tb : TE) : TE := fun σ H Q => ta σ H fun x H1 => tb σ H1 fun y H2 => r [x, y] H2 Q
def t3 (r : List V → Hp → VK → Prop) (ta tb tc : TE) : TE := fun σ H Q => ta σ H fun x H1 => tb σ H1 fun y H2 => tc σ H2 fun z H3 => r [x, y, z] H3 Q
def t4 (r : List V → Hp → VK → Prop) (ta tb tc td : TE) : TE := fun σ H Q => ta σ H fun x H1 => tb σ H1 fun y H2 => tc σ H2 fun z H3 => td σ H3 fun u H4 => r [x, y, z, u] H4 Q
section
variable {X : Cx} {k : Nat} {ps : List Str} {sp : Sp} {x id : Str} {p pos : Pos} {a b c d : Expr} {ta tb tc td : TE} {r : List V → Hp → VK → Prop}
/-- a def with one, two .. arguments -/
theorem pc1 (G : Ok X.prog X.w X.K X.mg X.base k x ps sp) (hr : Room k X.A) (hg : Gl X x) (ha : PE X a ta) (hdb : (x == ("__debug__" : Str)) = false := by decide)
    (e1 : starEach [a] X.env = [(false, eval a X.env)] := by rfl) : PE X (.Call (.Name x p) [a] [] pos) (t1 (fun vs H Q => sp vs H Q E0) ta) :=
  pe_ca G hr hg (pa_cons ha pa_nil e1) hdb e1 (by rfl)
theorem pc2 (G : Ok X.prog X.w X.K X.mg X.base k x ps sp) (hr : Room k X.A) (hg : Gl X x) (ha : PE X a ta) (hb : PE X b tb) (hdb : (x == ("__debug__" : Str)) = false := by decide)
    (e1 : starEach [a, b] X.env = (false, eval a X.env) :: starEach [b] X.env := by rfl) (e2 : starEach [b] X.env = [(false, eval b X.env)] := by rfl) : PE X (.Call (.Name x p) [a, b] [] pos) (t2 (fun vs H Q => sp vs H Q E0) ta tb) :=
  pe_ca G hr hg (pa_cons ha (pa_cons hb pa_nil e2) e1) hdb e1 (by rw [e2]; rfl)
theorem pc3 (G : Ok X.prog X.w X.K X.mg X.base k x ps sp) (hr : Room k X.A) (hg : Gl X x) (ha : PE X a ta) (hb : PE X b tb) (hc : PE X c tc) (hdb : (x == ("__debug__" : Str)) = false := by decide)
    (e1 : starEach [a, b, c] X.env = (false, eval a X.env) :: starEach [b, c] X.env := by rfl) (e2 : starEach [b, c] X.env = (false, eval b X.env) :: starEach [c] X.env := by rfl) (e3 : starEach [c] X.env = [(false, eval c X.env)] := by rfl) :
    PE X (.Call (.Name x p) [a, b, c] [] pos) (t3 (fun vs H Q => sp vs H Q E0) ta tb tc) :=
  pe_ca G hr hg (pa_cons ha (pa_cons hb (pa_cons hc pa_nil e3) e2) e1) hdb e1 (by rw [e2, e3]; rfl)
theorem pc4 (G : Ok X.prog X.w X.K X.mg X.base k x ps sp) (hr : Room k X.A) (hg : Gl X x) (ha : PE X a ta) (hb : PE X b tb) (hc : PE X c tc) (hd : PE X d td) (hdb : (x == ("__debug__" : Str)) = false := by decide)
    (e1 : starEach [a, b, c, d] X.env = (false, eval a X.env) :: starEach [b, c, d] X.env := by rfl) (e2 : starEach [b, c, d] X.env = (false, eval b X.env) :: starEach [c, d] X.env := by rfl) (e3 : starEach [c, d] X.env = (false, eval c X.env) :: starEach [d] X.env := by rfl)
    (e4 : starEach [d] X.env = [(false, eval d X.env)] := by rfl) : PE X (.Call (.Name x p) [a, b, c, d] [] pos) (t4 (fun vs H Q => sp vs H Q E0) ta tb tc td) :=
  pe_ca G hr hg (pa_cons ha (pa_cons hb (pa_cons hc (pa_cons hd pa_nil e4) e3) e2) e1) hdb e1 (by rw [e2, e3, e4]; rfl)
/-- a built-in function, a built-in class, with one, two arguments -/
theorem pb1 {id : String} (hc : CallR X (.builtin id) r) (hm : X.mg x = none) (hv : bootBuiltins x = some (.builtin id)) (hg : Gl X x) (ha : PE X a ta) (hn : x ≠ "__name__" := by decide) (hdb : (x == ("__debug__" : Str)) = false := by decide)
    (e1 : starEach [a] X.env = [(false, eval a X.env)] := by rfl) : PE X (.Call (.Name x p) [a] [] pos) (t1 r ta) := pe_callB hc hg hm hv (pa_cons ha pa_nil e1) hn hdb e1 (by rfl)
theorem pb2 {id : String} (hc : CallR X (.builtin id) r) (hm : X.mg x = none) (hv : bootBuiltins x = some (.builtin id)) (hg : Gl X x) (ha : PE X a ta) (hb : PE X b tb) (hn : x ≠ "__name__" := by decide) (hdb : (x == ("__debug__" : Str)) = false := by decide)
    (e1 : starEach [a, b] X.env = (false, eval a X.env) :: starEach [b] X.env := by rfl) (e2 : starEach [b] X.env = [(false, eval b X.env)] := by rfl) : PE X (.Call (.Name x p) [a, b] [] pos) (t2 r ta tb) := pe_callB hc hg hm hv (pa_cons ha (pa_cons hb pa_nil e2) e1) hn hdb e1 (by rw [e2]; rfl)
theorem pt1 {T : String} (hc : CallR X (.type T) r) (hm : X.mg x = none) (hv : bootBuiltins x = some (.type T)) (hg : Gl X x) (ha : PE X a ta) (hn : x ≠ "__name__" := by decide) (hdb : (x == ("__debug__" : Str)) = false := by decide)
    (e1 : starEach [a] X.env = [(false, eval a X.env)] := by rfl) : PE X (.Call (.Name x p) [a] [] pos) (t1 r ta) := pe_callTy hc hg hm hv (pa_cons ha pa_nil e1) hn hdb e1 (by rfl)
/-- gcd(a, b), by the import -/
theorem pgcd (hm : X.mg "gcd" = some (.builtin "math.gcd")) (hg : Gl X "gcd") (ha : PE X a ta) (hb : PE X b tb)
    (e1 : starEach [a, b] X.env = (false, eval a X.env) :: starEach [b] X.env := by rfl) (e2 : starEach [b] X.env = [(false, eval b X.env)] := by rfl) : PE X (.Call (.Name "gcd" p) [a, b] [] pos) (t2 rGcd ta tb) := pe_callBfun cr_gcd hg hm (pa_cons ha (pa_cons hb pa_nil e2) e1) (by decide) e1 (by rw [e2]; rfl)
/-- isinstance(a, T), T a built-in class -/
theorem pisi {nm : Str} {T : String} {p2 : Pos} (hm : X.mg "isinstance" = none) (ht : X.mg nm = none) (hv : bootBuiltins nm = some (.type T)) (hg : Gl X "isinstance") (hg2 : Gl X nm) (ha : PE X a ta) (hn : nm ≠ "__name__" := by decide) (hdb : (nm == ("__debug__" : Str)) = false := by decide)
    (e1 : starEach [a, .Name nm p2] X.env = (false, eval a X.env) :: starEach [.Name nm p2] X.env := by rfl) (e2 : starEach [.Name nm p2] X.env = [(false, eval (.Name nm p2) X.env)] := by rfl) :
    PE X (.Call (.Name "isinstance" p) [a, .Name nm p2] [] pos) (t1 (fun vs H Q => rIsi X.K (vs ++ [.ty T]) H Q) ta) :=
  pe_callB call_isi hg hm bt_isinstance (pa_cons ha (pa_cons (pe_bltn (v := .ty T) hg2 ht hv rfl hn hdb) pa_nil e2) e1) (by decide) (by decide) e1 (by rw [e2]; rfl)
end
section
variable {K : PySem.W.Frag} {H : Hp} {Q : VK} {i : Int} {z : Str} {a : Addr} {xs : List V}
theorem isi_int (q : Q (.bl true) H) : rIsi K [.int i, .ty "int"] H Q := ⟨_, _, .type "int", _, true, rfl, .ty _, .base (.int i), kit_ty (by decide +kernel), q⟩
theorem isi_int_bool (q : Q (.bl false) H) : rIsi K [.int i, .ty "bool"] H Q := ⟨_, _, .type "int", _, false, rfl, .ty _, .base (.int i), kit_ty (by decide +kernel), q⟩
theorem isi_str (q : Q (.bl true) H) : rIsi K [.str z, .ty "str"] H Q := ⟨_, _, .type "str", _, true, rfl, .ty _, .base (.str z), kit_ty (by decide +kernel), q⟩
theorem isi_tup (h : SqT K H a xs) (q : Q (.bl true) H) : rIsi K [.ref a, .ty "tuple"] H Q := by
  have ty : TyX K H (.ref a) (.type "tuple") := by
    rcases h with (h | ⟨o, h⟩) | ⟨o, its, n, h1, h2, _⟩
    · exact .base (.tup h)
    · exact .fTuple h
    · exact .kTuple h1 h2
  exact ⟨_, _, .type "tuple", _, true, rfl, .ty _, ty, kit_ty (by decide +kernel), q⟩
end
section
variable {P : Program} {w : World} {K : PySem.W.Frag} {mg : Str → Option Value} {base : Heap}
/-! ### is_int, is_in -/
abbrev sIsInt : Stmt := topS 12
theorem scIsInt : FnScope ["value"] ["value"] (defScope sIsInt) := ⟨rfl, rfl, rfl, by decide +kernel, rfl, by decide +kernel, by decide +kernel⟩
def spIsInt : Sp := fun vs H Q _ => ∃ i, vs = [.int i] ∧ Q (.bl true) H
theorem ok_is_int (D : Df K mg "is_int" sIsInt ["value"]) (B : Bi mg) : Ok P w K mg base 1 "is_int" ["value"] spIsInt := by
  refine D.ok (k := 0) scIsInt (fun vs H Q E h => by obtain ⟨i, rfl, _⟩ := h; rfl) fun f cdv A outer s H vs Q E hr h => ?_
  obtain ⟨i, rfl, q⟩ := h
  refine ⟨_, pss_one (ps_ret (pe_and (pisi B.isinstance B.int bt_int (by rfl) (by rfl) (pv 0)) (pe_one (pe_not (pisi B.isinstance B.bool bt_bool (by rfl) (by rfl) (pv 0)))))), ?_⟩
  exact ⟨_, rfl, isi_int ⟨true, rfl, iteT ⟨_, rfl, isi_int_bool ⟨false, rfl, q⟩⟩⟩⟩
abbrev sIsIn : Stmt := topS 13
theorem scIsIn : FnScope ["value", "least", "most"] ["value", "least", "most"] (defScope sIsIn) := ⟨rfl, rfl, rfl, by decide +kernel, rfl, by decide +kernel, by decide +kernel⟩
def spIsIn : Sp := fun vs H Q _ => ∃ i lo hi : Int, vs = [.int i, .int lo, .int hi] ∧ Q (.bl (decide (lo ≤ i) && decide (i ≤ hi))) H
theorem ok_is_in (D : Df K mg "is_in" sIsIn ["value", "least", "most"]) (G : Ok P w K mg base 1 "is_int" ["value"] spIsInt) : Ok P w K mg base 2 "is_in" ["value", "least", "most"] spIsIn := by
  refine D.ok (k := 1) scIsIn (fun vs H Q E h => by obtain ⟨i, lo, hi, rfl, _⟩ := h; rfl) fun f cdv A outer s H vs Q E hr h => ?_
  obtain ⟨i, lo, hi, rfl, q⟩ := h
  refine ⟨_, pss_one (ps_ret (pe_and (pc1 G hr (by rfl) (pv 0)) (pe_one (pe_chain op_le op_le (pv 1) (pv 0) (pv 2))))), ?_⟩
  refine ⟨_, rfl, i, rfl, true, rfl, iteT ⟨_, rfl, _, rfl, lo, i, rfl, rfl, _, rfl, ?_⟩⟩
  by_cases h1 : lo ≤ i
  · rw [decide_eq_true h1]
    refine iteT ⟨_, rfl, i, hi, rfl, rfl, ?_⟩
    simpa [h1] using q
  · rw [decide_eq_false h1]
    refine iteF ?_
    simpa [h1] using q
end
end CN
end
section
set_option Elab.async false
set_option linter.all false
set_option maxRecDepth 100000
set_option maxHeartbeats 4000000
namespace CN
open PySem PySem.Spec PyProof.Rows L2 PQ
theorem cut_take {xs : List V} {m : Nat} (h : m ≤ xs.length) : cutV xs none (some (m : Int)) = xs.take m := by
  unfold cutV
  rw [show HT.sIx xs.length xs.length (some (m : Int)) = min m xs.length from HT.sIx_nat xs.length xs.length m, HT.sIx_none, Nat.min_eq_left h]
  simp
theorem map_at {p : List Int} {i : Nat} (h : i < p.length) : (p.map V.int)[i]? = some (.int (cf p i)) := by
  rw [List.getElem?_map, List.getElem?_eq_getElem h, cf_lt h]; rfl
section
variable {P : Program} {w : World} {K : PySem.W.Frag} {mg : Str → Option Value} {base : Heap}
/-! ### trimmed -/
abbrev sTrimmed : Stmt := topS 19
theorem scTrimmed : FnScope ["some", "many"] ["some"] (defScope sTrimmed) := ⟨rfl, rfl, rfl, by decide +kernel, rfl, by decide +kernel, by decide +kernel⟩
def spTrimmed (K : PySem.W.Frag) : Sp := fun vs H Q _ => ∃ (a : Addr) (p : List Int), vs = [.ref a] ∧ SqL K H a (p.map V.int) ∧ ∀ H' v, Same H H' → Pl K H' v (trim p) → Q v H'
theorem ok_trimmed (D : Df K mg "trimmed" sTrimmed ["some"]) (B : Bi mg) : Ok P w K mg base 1 "trimmed" ["some"] (spTrimmed K) := by
  refine D.ok (k := 0) scTrimmed (fun vs H Q E h => by obtain ⟨a, p, rfl, _⟩ := h; rfl) fun f cdv A outer s H vs Q E hr h => ?_
  obtain ⟨a, p, rfl, hS, q⟩ := h
  refine ⟨_, pss_cons (ps_set (i := 1) scTrimmed.nd rfl (.inl rfl) (pb1 call_len_seq B.len bt_len (by rfl) (pv 0)))
    (pss_cons (ps_while PassesOwn.never (PW.pt (pw_and (pt_cmpR op_gt (pv 1) pe_int (nomark _)) (pw_and1 (pt_cmpR op_eq (pe_ix ix_list (pv 0) (pe_op op_sub (pv 1) pe_int) (fun _ _ => rfl)) pe_int (nomark _)))))
      (pss_one (ps_aug (i := 1) scTrimmed.nd rfl (.inl rfl) pe_int ip_sub)))
    (pss_one (ps_ret (pt1 call_tuple_of B.tuple bt_tuple (by rfl) (pe_slice sl_list (pv 0) po_none (po_some (pv 1))))))), ?_⟩
  refine ⟨.ref a, rfl, a, _, rfl, .inl hS, fun m σ H' => σ = [some (.ref a), some (.int m)] ∧ m ≤ p.length ∧ (∀ i, m ≤ i → cf p i = 0) ∧ H' = H, ⟨p.length, by rw [List.length_map]; rfl, Nat.le_refl _, fun i hi => cf_ge hi, rfl⟩, fun m σ H' hW => ?_⟩
  obtain ⟨rfl, hm, hz, rfl⟩ := hW
  have fin : (m = 0 ∨ cf p (m - 1) ≠ 0) → tRet (t1 (fun xs H Q => ∃ p ys, xs = [.ref p] ∧ ((SqL K H p ys ∧ ∀ l, H l = none → Q (.ref l) (upd H l (.tup ys))) ∨ (SqT K H p ys ∧ Q (.ref p) H))) (tSl (rSlL K) (tVar 0) tNoPart (tPart (tVar 1))))
      { nx := fun _ H' => Q .non H', rt := Q } [some (.ref a), some (.int m)] H' := fun h => by
    refine ⟨.ref a, rfl, .int m, rfl, m, rfl, a, _, rfl, hS, fun l nl => ⟨l, _, rfl, .inl ⟨SqL.of upd_same, fun t nt => ?_⟩⟩⟩
    refine q _ _ ((same_upd nl).trans (same_upd nt)) ?_
    have e : cutV (p.map V.int) none (some (m : Int)) = (trim p).map V.int := by
      rw [cut_take (by rw [List.length_map]; exact hm), ← List.map_take, trim_of hz h]
    rw [e]
    exact Pl.new
  refine ⟨.int m, rfl, m, 0, rfl, rfl, _, rfl, ite2 (fun h0 => ?_) (fun h0 => ?_)⟩
  · have h0 : (0 : Int) < m := of_decide_eq_true h0
    have h1 : m - 1 < p.length := by omega
    refine ⟨.ref a, rfl, .int m, rfl, m, 1, rfl, rfl, a, _, (m : Int) - 1, .int (cf p (m - 1)), rfl, rfl, hS, at_of (j := m - 1) (by omega) (map_at h1), rfl, _, rfl, ite2 (fun h2 => ?_) (fun h2 => ?_)⟩
    · have h2 := of_decide_eq_true h2
      have h2 : cf p (m - 1) = 0 := V.int.inj h2
      refine ⟨fun σ H'' => σ = [some (.ref a), some (.int ((m : Int) - 1))] ∧ H'' = H', fun σ H'' ⟨e1, e2⟩ => ⟨m - 1, by omega, ?_, by omega, fun i hi => ?_, e2⟩, ?_⟩
      · rw [e1, show ((m - 1 : Nat) : Int) = (m : Int) - 1 by omega]
      · by_cases e : i = m - 1
        · rw [e]; exact h2
        · exact hz i (by omega)
      · exact ⟨.int m, rfl, m, 1, rfl, rfl, rfl, rfl⟩
    · refine fin (.inr fun e => h2 (decide_eq_true ?_))
      rw [e]
  · exact fin (.inl (by have : ¬ (0 : Int) < m := fun z => h0 (decide_eq_true z); omega))
end
end CN
end
section
set_option Elab.async false
set_option linter.all false
set_option maxRecDepth 100000
set_option maxHeartbeats 4000000
namespace PQ
theorem zip_padd : ∀ (p q : List Int) (n : Nat), p.length ≤ n → q.length ≤ n → n = max p.length q.length →
    List.zipWith (· + ·) (p ++ List.replicate (n - p.length) 0) (q ++ List.replicate (n - q.length) 0) = padd p q
  | [], [], n, _, _, h => by have : n = 0 := by simpa using h
                             subst this; rfl
  | [], b :: q, n, _, h2, h => by
    have e : n = q.length + 1 := by simp at h; omega
    subst e
    have ih := zip_padd [] q q.length (by simp) (Nat.le_refl _) (by simp)
    simp only [List.nil_append, List.length_nil, List.length_cons, padd_nil_left, Nat.sub_zero, Nat.sub_self, List.replicate_zero, List.append_nil] at ih ⊢
    rw [List.replicate_succ, List.zipWith_cons_cons, ih]; simp
  | a :: p, [], n, h1, _, h => by
    have e : n = p.length + 1 := by simp at h; omega
    subst e
    have ih := zip_padd p [] p.length (Nat.le_refl _) (by simp) (by simp)
    simp only [List.nil_append, List.length_nil, List.length_cons, padd_nil_right, Nat.sub_zero, Nat.sub_self, List.replicate_zero, List.append_nil] at ih ⊢
    rw [List.replicate_succ, List.zipWith_cons_cons, ih]; simp
  | a :: p, b :: q, n, h1, h2, h => by
    obtain ⟨k, rfl⟩ : ∃ k, n = k + 1 := ⟨n - 1, by simp at h1; omega⟩
    have ih := zip_padd p q k (by simp at h1; omega) (by simp at h2; omega) (by simp at h; omega)
    have e1 : k + 1 - (p.length + 1) = k - p.length := by omega
    have e2 : k + 1 - (q.length + 1) = k - q.length := by omega
    simp only [List.cons_append, List.length_cons, padd_cons, e1, e2]
    rw [List.zipWith_cons_cons, ih]
end PQ
namespace CN
open PySem PySem.Spec PyProof.Rows L2 PQ
theorem rep_flat (n : Nat) (i : Int) : (List.replicate n [V.int i]).flatten = (List.replicate n i).map V.int := by
  induction n with
  | zero => rfl
  | succ n ih => rw [List.replicate_succ, List.flatten_cons, ih, List.replicate_succ]; rfl
theorem line1000 : 1000 ≤ sizeLine := by decide
theorem small_line {n : Nat} (h : n ≤ 1000) : n ≤ sizeLine := Nat.le_trans h line1000
theorem PE.imp {X : Cx} {e : Expr} {t t' : TE} (h : PE X e t) (k : ∀ σ H Q, t' σ H Q → t σ H Q) : PE X e t' := ⟨fun pins s σ H Q I q => h.run pins s σ H Q I (k σ H Q q)⟩
theorem PT.imp {X : Cx} {e : Expr} {t t' : TT} (h : PT X e t) (k : ∀ σ H Q, t' σ H Q → t σ H Q) : PT X e t' := ⟨fun pins s σ H Q I q => h.run pins s σ H Q I (k σ H Q q)⟩
theorem PS.imp {X : Cx} {e : Stmt} {t t' : TS} (h : PS X e t) (k : ∀ D σ H, t' D σ H → t D σ H) : PS X e t' := ⟨fun pins s σ H D I q => h.run pins s σ H D I (k D σ H q)⟩
theorem PSs.imp {X : Cx} {e : List Stmt} {t t' : TS} (h : PSs X e t) (k : ∀ D σ H, t' D σ H → t D σ H) : PSs X e t' := ⟨fun pins s σ H D I q => h.run pins s σ H D I (k D σ H q)⟩
abbrev rLen (K : PySem.W.Frag) : List V → Hp → VK → Prop := fun xs H Q => ∃ p ys, xs = [.ref p] ∧ (SqL K H p ys ∨ SqT K H p ys) ∧ Q (.int ys.length) H
/-- a new list of a tuple's ints and zeros behind them, up to many -/
theorem rd_pad {K : PySem.W.Frag} {i j n : Nat} {σ : L2.St} {H : Hp} {a : Addr} {p : List Int} {Q : VK} (h1 : σ[i]? = some (some (.ref a))) (h2 : σ[j]? = some (some (.int n))) (hA : SqT K H a (p.map V.int)) (lp : p.length ≤ n) (ln : n ≤ 400)
    (k : ∀ H' l, Same H H' → H' l = some (.lst ((p ++ List.replicate (n - p.length) 0).map V.int)) → Q (.ref l) H') :
    tLst (StX.tStar K (tVar i) (StX.tStar K (tOp rRep (tLst (tCons (tC (.int 0)) tNil)) (tOp (rI0 fun i j => .int (i - j)) (tVar j) (t1 (rLen K) (tVar i)))) tNil)) σ H Q := by
  refine ⟨.ref a, h1, a, _, rfl, .inl hA, (by decide : 1 ≤ sizeLine), fun l1 m1 => ⟨.int n, h2, .ref a, h1, a, _, rfl, .inr (same_sqT (same_upd m1) hA), _, _, rfl, rfl, l1, _, _, rfl, rfl, upd_same, ?_⟩⟩
  have e1 : ((n : Int) - (((p.map V.int).length : Nat) : Int)).toNat = n - p.length := by rw [List.length_map]; omega
  refine ⟨by rw [List.length_map]; omega, by rw [List.length_map]; omega, by rw [e1]; exact small_line (by show 1 * _ ≤ _; omega), fun l2 m2 => ⟨l2, _, rfl, .inr (.of upd_same), ?_⟩⟩
  have ef : p.map V.int ++ ((List.replicate ((n : Int) - (((p.map V.int).length : Nat) : Int)).toNat [V.int 0]).flatten ++ []) = (p ++ List.replicate (n - p.length) 0).map V.int := by rw [List.append_nil, rep_flat, e1, List.map_append]
  refine ⟨by rw [ef, List.length_map, List.length_append, List.length_replicate]; exact small_line (by omega), fun l3 m3 => k _ _ ((same_upd m1).trans ((same_upd m2).trans (same_upd m3))) ?_⟩
  rw [upd_same, ef]
section
variable {P : Program} {w : World} {K : PySem.W.Frag} {mg : Str → Option Value} {base : Heap}
def tPad (K : PySem.W.Frag) (i j : Nat) : TE := fun σ H Q => ∃ (a : Addr) (p : List Int) (n : Nat), σ[i]? = some (some (.ref a)) ∧ σ[j]? = some (some (.int n)) ∧ SqT K H a (p.map V.int) ∧ p.length ≤ n ∧ n ≤ 400 ∧
  ∀ H' l, Same H H' → H' l = some (.lst ((p ++ List.replicate (n - p.length) 0).map V.int)) → Q (.ref l) H'
theorem pe_pad {X : Cx} {i j : Nat} {e : Expr} (h : PE X e (tLst (StX.tStar X.K (tVar i) (StX.tStar X.K (tOp rRep (tLst (tCons (tC (.int 0)) tNil)) (tOp (rI0 fun i j => .int (i - j)) (tVar j) (t1 (rLen X.K) (tVar i)))) tNil)))) : PE X e (tPad X.K i j) :=
  PE.imp h fun σ H Q ⟨a, p, n, h1, h2, hA, lp, ln, k⟩ => rd_pad h1 h2 hA lp ln k
/-! ### poly_plus -/
abbrev sPlus : Stmt := topS 20
abbrev nPlus : List Str := ["one", "other", "many", "first", "second", "a", "b"]
theorem scPlus : FnScope nPlus ["one", "other"] (defScope sPlus) := ⟨rfl, rfl, rfl, by decide +kernel, rfl, by decide +kernel, by decide +kernel⟩
def spPlus (K : PySem.W.Frag) : Sp := fun vs H Q _ => ∃ (x y : V) (p q : List Int), vs = [x, y] ∧ Pl K H x p ∧ Pl K H y q ∧ p.length ≤ 200 ∧ q.length ≤ 200 ∧ ∀ H' v, Same H H' → Pl K H' v (trim (padd p q)) → Q v H'
theorem ok_plus (D : Df K mg "poly_plus" sPlus ["one", "other"]) (B : Bi mg) (G : Ok P w K mg base 1 "trimmed" ["some"] (spTrimmed K)) : Ok P w K mg base 2 "poly_plus" ["one", "other"] (spPlus K) := by
  refine D.ok (k := 1) scPlus (fun vs H Q E h => by obtain ⟨x, y, p, q, rfl, _⟩ := h; rfl) fun f cdv A outer s H vs Q E hr h => ?_
  obtain ⟨x, y, p, q, rfl, ⟨a, rfl, hA⟩, ⟨b, rfl, hB⟩, lp, lq, k⟩ := h
  refine ⟨_, pss_cons (ps_set (i := 2) scPlus.nd rfl (.inl rfl) (pb2 (call_max2 rfl) B.max bt_max (by rfl) (pb1 call_len_seq B.len bt_len (by rfl) (pv 0)) (pb1 call_len_seq B.len bt_len (by rfl) (pv 1))))
    (pss_cons (ps_par (i := 3) (j := 4) rfl scPlus.nd rfl rfl (by decide) rfl rfl
      (pa_cons (pe_pad (pe_lst (StX.pa_star (pv 0) (StX.pa_star (pe_op op_rep (pe_lst (pa_cons pe_int pa_nil)) (pe_op op_sub (pv 2) (pb1 call_len_seq B.len bt_len (by rfl) (pv 0)))) pa_nil))))
      (pa_cons (pe_pad (pe_lst (StX.pa_star (pv 1) (StX.pa_star (pe_op op_rep (pe_lst (pa_cons pe_int pa_nil)) (pe_op op_sub (pv 2) (pb1 call_len_seq B.len bt_len (by rfl) (pv 1)))) pa_nil)))) pa_nil)) (by rfl))
    (pss_one (ps_ret (pc1 G hr (by rfl) (pe_lc (own := [("a", 5), ("b", 6)]) (g := gTup _ 2 (gCons (gName 5) (gCons (gName 6) gNil))) (tt := tYes) rfl scPlus.nd (pi_zip (by rfl) B.zip (pa_cons (pv 3) (pa_cons (pv 4) pa_nil)))
      (blkOk_by (own := [("a", 5), ("b", 6)]) (N := nPlus) (sc := defScope sPlus) (by decide +kernel))
      (fun _ _ _ _ _ => pg_tup rfl (pgs_cons (pg_name (i := 5) scPlus.nd rfl (Or.inl rfl)) (pgs_cons (pg_name (i := 6) scPlus.nd rfl (Or.inl rfl)) pgs_nil))) (fun _ _ _ _ _ => pts_nil) (fun _ _ _ _ _ => pe_op op_add (pv 5) (pv 6))))))), ?_⟩
  obtain ⟨n, hn⟩ : ∃ n, n = max p.length q.length := ⟨_, rfl⟩
  have em : (if (((q.map V.int).length : Nat) : Int) > (((p.map V.int).length : Nat) : Int) then (((q.map V.int).length : Nat) : Int) else (((p.map V.int).length : Nat) : Int)) = (n : Int) := by
    rw [List.length_map, List.length_map]; split <;> omega
  refine ⟨.ref a, rfl, a, _, rfl, .inr hA, .ref b, rfl, b, _, rfl, .inr hB, _, _, rfl, ?_⟩
  rw [em]
  refine ⟨a, p, n, rfl, rfl, hA, by omega, by omega, fun H3 l3 S3 f3 => ?_⟩
  refine ⟨b, q, n, rfl, rfl, same_sqT S3 hB, by omega, by omega, fun H6 l6 S6 f6 => ?_⟩
  refine ⟨_, _, rfl, ?_⟩
  -- the comprehension
  have f3' := S6 _ _ f3
  obtain ⟨xs, hxs⟩ : ∃ xs, xs = p ++ List.replicate (n - p.length) 0 := ⟨_, rfl⟩
  obtain ⟨ys, hys⟩ : ∃ ys, ys = q ++ List.replicate (n - q.length) 0 := ⟨_, rfl⟩
  rw [← hxs] at f3'
  rw [← hys] at f6
  have lx : xs.length = n := by rw [hxs, List.length_append, List.length_replicate]; omega
  have ly : ys.length = n := by rw [hys, List.length_append, List.length_replicate]; omega
  have zp : List.zipWith (· + ·) xs ys = padd p q := by rw [hxs, hys]; exact zip_padd p q n (by omega) (by omega) hn
  have lz : (List.zipWith (· + ·) xs ys).length = n := by rw [List.length_zipWith]; omega
  refine ⟨.ref l3, rfl, .ref l6, rfl, l3, l6, _, _, rfl, .of f3', .of f6, fun Dl nD => ?_⟩
  refine lc_zip (by rw [List.length_map, List.length_map, lx, ly]) (fun i H' => Same H6 H' ∧ H' Dl = some (.lst (((List.zipWith (· + ·) xs ys).take i).map V.int))) ⟨same_upd nD, upd_same⟩ (fun i H' z => ⟨.of (z.1 _ _ f3'), .of (z.1 _ _ f6)⟩) (fun i u v T H' hu hv z nT => ?_) fun H' z => ?_
  · obtain ⟨z1, z2⟩ := z
    have hi : i < n := by have := (List.getElem?_eq_some_iff.mp hu).1; rw [List.length_map] at this; omega
    obtain rfl : V.int (cf xs i) = u := Option.some.inj ((map_at (by omega)).symm.trans hu)
    obtain rfl : V.int (cf ys i) = v := Option.some.inj ((map_at (by omega)).symm.trans hv)
    have nDT : Dl ≠ T := ne_of_none z2 nT
    refine ⟨T, _, rfl, .of upd_same, rfl, _, _, rfl, _, _, rfl, rfl, rfl, .int (cf xs i), rfl, .int (cf ys i), rfl, _, _, rfl, rfl, _, (upd_ne nDT).trans z2, ?_, ?_, ?_⟩
    · rw [List.length_map, List.length_take]
      exact Nat.lt_of_le_of_lt (Nat.min_le_left _ _) (small1000 (by omega))
    · intro b o e
      rw [upd_ne (ne_of_none e nD), upd_ne (ne_of_none (z1 _ _ e) nT)]
      exact z1 _ _ e
    · rw [upd_same, List.take_add_one, List.getElem?_zipWith, List.getElem?_eq_getElem (show i < xs.length by omega), List.getElem?_eq_getElem (show i < ys.length by omega), List.map_append, cf_lt (show i < xs.length by omega), cf_lt (show i < ys.length by omega)]
      rfl
  · obtain ⟨z1, z2⟩ := z
    have ez : (List.zipWith (· + ·) xs ys).take (List.map V.int xs).length = padd p q := by
      rw [List.length_map, List.take_of_length_le (by omega), zp]
    rw [ez] at z2
    exact ⟨Dl, _, rfl, .of z2, fun H'' v s'' hv => k _ _ (S3.trans (S6.trans (z1.trans s''))) hv⟩
end
end CN
end
section
set_option Elab.async false
set_option linter.all false
set_option maxRecDepth 100000
set_option maxHeartbeats 4000000
namespace CN
open PySem PySem.Spec PyProof.Rows L2 PQ
section
variable {X : Cx}
theorem op_mulA : OpR X (binaryOp .Mult) (rI IntMulOk fun i j => .int (i * j)) := opI fun _ _ _ _ _ _ _ hc q => mul_int q hc
/-- [e for x in t], t a tuple of ints, e pure -/
def tMap (K : PySem.W.Frag) (j i : Nat) (vs : List Nat) (te : TE) : TE := fun σ H Q => ∃ (a : Addr) (p : List Int) (gf : Int → Int), σ[j]? = some (some (.ref a)) ∧ SqT K H a (p.map V.int) ∧ p.length ≤ 1000 ∧
  (∀ x, wipe ((wipe σ vs).set i x) vs = wipe σ vs) ∧ (∀ c ∈ p, ∀ H' R, Same H H' → R (.int (gf c)) H' → te ((wipe σ vs).set i (some (.int c))) H' R) ∧
  ∀ H' D, Same H H' → H' D = some (.lst ((p.map gf).map V.int)) → Q (.ref D) H'
theorem pe_map {j i : Nat} {vs : List Nat} {te : TE} {e : Expr} (h : PE X e (tLc (iTup X.K (tVar j)) (gName i) tYes te vs)) : PE X e (tMap X.K j i vs te) := by
  refine PE.imp h fun σ H Q z => ?_
  obtain ⟨a, p, gf, h1, hA, lp, hw, hte, k⟩ := z
  refine ⟨.ref a, h1, a, rfl, ⟨_, hA⟩, fun D nD => ?_⟩
  refine lc_tup (xs := p.map V.int) (fun n H' => Same H H' ∧ H' D = some (.lst (((p.map gf).take n).map V.int))) ⟨same_upd nD, upd_same⟩ (fun n H' _ z => same_sqT z.1 hA) (fun n u H' hu z => ?_) fun H' z => ?_
  · obtain ⟨z1, z2⟩ := z
    have hn : n < p.length := by have := (List.getElem?_eq_some_iff.mp hu).1; rwa [List.length_map] at this
    obtain rfl : V.int (cf p n) = u := Option.some.inj ((map_at hn).symm.trans hu)
    refine ⟨hw _, (hte (cf p n) (by rw [cf_lt hn]; exact List.getElem_mem hn) H' _ z1 ⟨_, z2, ?_, fun b o e => ?_, ?_⟩ : te _ _ _)⟩
    · rw [List.length_map, List.length_take]
      exact Nat.lt_of_le_of_lt (Nat.min_le_right _ _) (small1000 (by rw [List.length_map]; exact lp))
    · rw [upd_ne (ne_of_none e nD)]
      exact z1 _ _ e
    · rw [upd_same, List.take_add_one, List.getElem?_map, List.getElem?_eq_getElem hn, List.map_append, cf_lt hn]
      rfl
  · obtain ⟨z1, z2⟩ := z
    rw [List.length_map, List.take_of_length_le (by rw [List.length_map]; exact Nat.le_refl _)] at z2
    exact k _ _ z1 z2
/-- tuple([e for x in t]) -/
def tMapT (K : PySem.W.Frag) (j i : Nat) (vs : List Nat) (te : TE) : TE := fun σ H Q => ∃ (a : Addr) (p : List Int) (gf : Int → Int), σ[j]? = some (some (.ref a)) ∧ SqT K H a (p.map V.int) ∧ p.length ≤ 1000 ∧
  (∀ x, wipe ((wipe σ vs).set i x) vs = wipe σ vs) ∧ (∀ c ∈ p, ∀ H' R, Same H H' → R (.int (gf c)) H' → te ((wipe σ vs).set i (some (.int c))) H' R) ∧
  ∀ H' v, Same H H' → Pl K H' v (p.map gf) → Q v H'
theorem pe_mapT {j i : Nat} {vs : List Nat} {te : TE} {p pos : Pos} {e : Expr} (B : Bi X.mg) (hg : Gl X "tuple") (h : PE X e (tLc (iTup X.K (tVar j)) (gName i) tYes te vs))
    (e1 : starEach [e] X.env = [(false, eval e X.env)] := by rfl) : PE X (.Call (.Name "tuple" p) [e] [] pos) (tMapT X.K j i vs te) := by
  refine PE.imp (pt1 call_tuple_of B.tuple bt_tuple hg (pe_map h) (e1 := e1)) fun σ H Q z => ?_
  obtain ⟨a, p, gf, h1, hA, lp, hw, hte, k⟩ := z
  refine ⟨a, p, gf, h1, hA, lp, hw, hte, fun H' D sm hD => ⟨D, _, rfl, .inl ⟨.of hD, fun l nl => k _ _ (sm.trans (same_upd nl)) Pl.new⟩⟩⟩
end
section
variable {P : Program} {w : World} {K : PySem.W.Frag} {mg : Str → Option Value} {base : Heap}
/-! ### scaled, poly_minus -/
abbrev sScaled : Stmt := topS 21
abbrev nScaled : List Str := ["one", "factor", "a"]
theorem scScaled : FnScope nScaled ["one", "factor"] (defScope sScaled) := ⟨rfl, rfl, rfl, by decide +kernel, rfl, by decide +kernel, by decide +kernel⟩
/-- products of all with k have room -/
def Mk1 (k : Int) (p : List Int) : Prop := ∀ c ∈ p, IntMulOk k c
def spScaled (K : PySem.W.Frag) : Sp := fun vs H Q _ => ∃ (x : V) (p : List Int) (c : Int), vs = [x, .int c] ∧ Pl K H x p ∧ p.length ≤ 200 ∧ Mk1 c p ∧ ∀ H' v, Same H H' → Pl K H' v (trim (psc c p)) → Q v H'
theorem ok_scaled (D : Df K mg "scaled" sScaled ["one", "factor"]) (G : Ok P w K mg base 1 "trimmed" ["some"] (spTrimmed K)) : Ok P w K mg base 2 "scaled" ["one", "factor"] (spScaled K) := by
  refine D.ok (k := 1) scScaled (fun vs H Q E h => by obtain ⟨x, p, c, rfl, _⟩ := h; rfl) fun f cdv A outer s H vs Q E hr h => ?_
  obtain ⟨x, p, c, rfl, ⟨a, rfl, hA⟩, lp, hm, k⟩ := h
  refine ⟨_, pss_one (ps_ret (pc1 G hr (by rfl) (pe_map (pe_lc (own := [("a", 2)]) (g := gName 2) (tt := tYes) rfl scScaled.nd (pi_tup (pv 0)) (blkOk_by (own := [("a", 2)]) (N := nScaled) (sc := defScope sScaled) (by decide +kernel))
    (fun _ _ _ _ _ => pg_name (i := 2) scScaled.nd rfl (Or.inl rfl)) (fun _ _ _ _ _ => pts_nil) (fun _ _ _ _ _ => pe_op op_mulA (pv 1) (pv 2)))))), ?_⟩
  refine ⟨a, p, fun d => c * d, rfl, hA, by omega, fun _ => rfl, fun d hd H' R _ r => ⟨_, rfl, _, rfl, c, d, rfl, rfl, hm d hd, r⟩, fun H' l sm hl => ⟨l, _, rfl, .of hl, fun H'' v s2 hv => k _ _ (sm.trans s2) hv⟩⟩
abbrev sMinus : Stmt := topS 22
theorem scMinus : FnScope ["one", "other"] ["one", "other"] (defScope sMinus) := ⟨rfl, rfl, rfl, by decide +kernel, rfl, by decide +kernel, by decide +kernel⟩
def spMinus (K : PySem.W.Frag) : Sp := fun vs H Q _ => ∃ (x y : V) (p q : List Int), vs = [x, y] ∧ Pl K H x p ∧ Pl K H y q ∧ p.length ≤ 200 ∧ q.length ≤ 200 ∧ ∀ H' v, Same H H' → Pl K H' v (trim (padd p (psc (-1) q))) → Q v H'
theorem mulOk_small {i : Int} (h : i.natAbs ≤ 1) (j : Int) : IntMulOk i j := .of_left (intBits_le_64 (by omega) (by omega))
theorem trim_padd_trim (p q : List Int) : trim (padd p (trim q)) = trim (padd p q) := trim_inj (trim_ok _) (trim_ok _) (N := 0) fun x _ => by rw [ev_trim, ev_trim, ev_padd, ev_padd, ev_trim]
theorem ok_minus (D : Df K mg "poly_minus" sMinus ["one", "other"]) (G : Ok P w K mg base 2 "scaled" ["one", "factor"] (spScaled K)) (G2 : Ok P w K mg base 2 "poly_plus" ["one", "other"] (spPlus K)) : Ok P w K mg base 3 "poly_minus" ["one", "other"] (spMinus K) := by
  refine D.ok (k := 2) scMinus (fun vs H Q E h => by obtain ⟨x, y, p, q, rfl, _⟩ := h; rfl) fun f cdv A outer s H vs Q E hr h => ?_
  obtain ⟨x, y, p, q, rfl, hA, hB, lp, lq, k⟩ := h
  refine ⟨_, pss_one (ps_ret (pc2 G2 hr (by rfl) (pv 0) (pc2 G hr (by rfl) (pv 1) (pe_un un_neg pe_int)))), ?_⟩
  refine ⟨x, rfl, y, rfl, 1, rfl, y, q, -1, rfl, hB, lq, fun c hc => mulOk_small (by decide) c, fun H1 v s1 hv => ?_⟩
  refine ⟨x, v, p, _, rfl, hA.same s1, hv, lp, Nat.le_trans (length_trim _) (by rw [length_psc]; exact lq), fun H2 u s2 hu => k _ _ (s1.trans s2) ?_⟩
  rw [trim_padd_trim] at hu
  exact hu
end
end CN
end
section
set_option Elab.async false
set_option linter.all false
set_option maxRecDepth 100000
set_option maxHeartbeats 4000000
namespace PQ
theorem ev_set {l : List Int} {k : Nat} {z : Int} (h : k < l.length) (x : Int) : ev (l.set k z) x = ev l x + (z - cf l k) * x ^ k := by
  induction l generalizing k with
  | nil => simp at h
  | cons a l ih =>
    cases k with
    | zero => simp; omega
    | succ k =>
      have := ih (k := k) (by simpa using h)
      rw [List.set_cons_succ, ev_cons, ev_cons, this, cf_cons_succ, Int.pow_succ]; grind
theorem ev_take {p : List Int} {i : Nat} (h : i < p.length) (x : Int) : ev (p.take (i + 1)) x = ev (p.take i) x + cf p i * x ^ i := by
  rw [List.take_add_one, List.getElem?_eq_getElem h, ev_append, List.length_take, Nat.min_eq_left (Nat.le_of_lt h), cf_lt h]
  simp; grind
theorem trim_ev {p q : List Int} (h : ∀ x, ev p x = ev q x) : trim p = trim q := trim_inj (trim_ok _) (trim_ok _) (N := 0) fun x _ => by rw [ev_trim, ev_trim, h]
end PQ
namespace CN
open PySem PySem.Spec PyProof.Rows L2 PQ
theorem plNil {K : PySem.W.Frag} {H : Hp} {a : Addr} : Pl K (upd H a (.tup [])) (.ref a) [] := ⟨a, rfl, .of upd_same⟩
theorem ixN_nat {n j : Nat} (h : j < n) : ixN n (j : Int) = some j := by
  unfold ixN
  rw [if_pos (Int.natCast_nonneg j)]
  simp [h]
section
variable {P : Program} {w : World} {K : PySem.W.Frag} {mg : Str → Option Value} {base : Heap}
abbrev sTimes : Stmt := topS 23
abbrev nTimes : List Str := ["one", "other", "found", "at", "a", "place", "b"]
theorem scTimes : FnScope nTimes ["one", "other"] (defScope sTimes) := ⟨rfl, rfl, rfl, by decide +kernel, rfl, by decide +kernel, by decide +kernel⟩
/-- products of any two have room -/
def Mk2 (p q : List Int) : Prop := ∀ c ∈ p, Mk1 c q
def spTimes (K : PySem.W.Frag) : Sp := fun vs H Q _ => ∃ (x y : V) (p q : List Int), vs = [x, y] ∧ Pl K H x p ∧ Pl K H y q ∧ p.length ≤ 200 ∧ q.length ≤ 200 ∧ Mk2 p q ∧ ∀ H' v, Same H H' → Pl K H' v (trim (pmul p q)) → Q v H'
theorem ok_times (D : Df K mg "poly_times" sTimes ["one", "other"]) (B : Bi mg) (G : Ok P w K mg base 1 "trimmed" ["some"] (spTrimmed K)) : Ok P w K mg base 2 "poly_times" ["one", "other"] (spTimes K) := by
  refine D.ok (k := 1) scTimes (fun vs H Q E h => by obtain ⟨x, y, p, q, rfl, _⟩ := h; rfl) fun f cdv A outer s H vs Q E hr h => ?_
  obtain ⟨x, y, p, q, rfl, ⟨a, rfl, hA⟩, ⟨b, rfl, hB⟩, lp, lq, hm, k⟩ := h
  refine ⟨_, pss_cons (ps_if (PW.pt (pw_or (pt_cmpR (op_eqD hr.units) (pv 0) (pe_tup pa_nil) (nomark _)) (pw_or1 (pt_cmpR (op_eqD hr.units) (pv 1) (pe_tup pa_nil) (nomark _))))) (pss_one (ps_ret (pe_tup pa_nil))) pss_nil)
    (pss_cons (ps_set (i := 2) scTimes.nd rfl (.inl rfl) (pe_op op_rep (pe_lst (pa_cons pe_int pa_nil)) (pe_op op_sub (pe_op op_add (pb1 call_len_seq B.len bt_len (by rfl) (pv 0)) (pb1 call_len_seq B.len bt_len (by rfl) (pv 1))) pe_int)))
    (pss_cons (ps_for PassesOwn.never rfl (pi_enumT (by rfl) B.enumerate (pa_cons (pv 0) pa_nil)) (pg_tup rfl (pgs_cons (pg_name (i := 3) scTimes.nd rfl (.inl rfl)) (pgs_cons (pg_name (i := 4) scTimes.nd rfl (.inl rfl)) pgs_nil)))
      (pss_one (ps_for PassesOwn.never rfl (pi_enumT (by rfl) B.enumerate (pa_cons (pv 1) pa_nil)) (pg_tup rfl (pgs_cons (pg_name (i := 5) scTimes.nd rfl (.inl rfl)) (pgs_cons (pg_name (i := 6) scTimes.nd rfl (.inl rfl)) pgs_nil)))
        (pss_one (ps_augS (pv 2) (pe_op op_add (pv 3) (pv 5)) pget_lst (pe_op op_mulA (pv 4) (pv 6)) ip_add set_list)))))
    (pss_one (ps_ret (pc1 G hr (by rfl) (pv 2)))))), ?_⟩
  have nilR : (p = [] ∨ q = []) → trim (pmul p q) = [] := fun h => eq_nil_of (trim_ok _) (N := 0) fun x _ => by rw [ev_trim, ev_pmul]; rcases h with rfl | rfl <;> simp
  have retE : (p = [] ∨ q = []) → ∀ H1, Same H H1 → tRet (tTup tNil) { nx := fun _ H' => Q .non H', rt := Q } [some (.ref a), some (.ref b), none, none, none, none, none] H1 := fun h H1 s1 => by
    refine ⟨by decide, fun t nt => k _ _ (s1.trans (same_upd nt)) ?_⟩
    rw [nilR h]; exact plNil
  refine ⟨.ref a, rfl, by decide, fun t1 n1 => eq_pl (p := p) (q := []) ⟨a, rfl, same_sqT (same_upd n1) hA⟩ plNil ⟨_, rfl, ite2 (fun h1 => ?_) (fun h1 => ?_)⟩⟩
  · have h1 := of_decide_eq_true h1
    exact iteT (retE (.inl h1) _ (same_upd n1))
  have hp : p ≠ [] := fun e => h1 (decide_eq_true e)
  have s1 := same_upd (o := .tup []) n1
  refine ⟨.ref b, rfl, by decide, fun t2 n2 => eq_pl (p := q) (q := []) ⟨b, rfl, same_sqT (same_upd n2) (same_sqT s1 hB)⟩ plNil ⟨_, rfl, ?_⟩⟩
  have s2 := s1.trans (same_upd (o := .tup []) n2)
  generalize (upd (upd H t1 (.tup [])) t2 (.tup [])) = H2 at s2 ⊢
  refine ite2 (fun h2 => retE (.inr (of_decide_eq_true h2)) _ s2) (fun h2 => ?_)
  have hq : q ≠ [] := fun e => h2 (decide_eq_true e)
  have pl := List.length_pos_iff.mpr hp
  have ql := List.length_pos_iff.mpr hq
  -- found
  refine ⟨by decide, fun l1 m1 => ⟨.ref a, rfl, a, _, rfl, .inr (same_sqT (s2.trans (same_upd m1)) hA), .ref b, rfl, b, _, rfl, .inr (same_sqT (s2.trans (same_upd m1)) hB), _, _, rfl, rfl, _, _, rfl, rfl, l1, _, _, rfl, rfl, upd_same, ?_⟩⟩
  have e1 : ((((p.map V.int).length : Nat) : Int) + (((q.map V.int).length : Nat) : Int) - 1).toNat = p.length + q.length - 1 := by rw [List.length_map, List.length_map]; omega
  refine ⟨by rw [List.length_map, List.length_map]; omega, by rw [List.length_map, List.length_map]; omega, by rw [e1]; exact small_line (by show 1 * _ ≤ _; omega), fun l m2 => ?_⟩
  have s3 := s2.trans ((same_upd (o := .lst [.int 0]) m1).trans (same_upd (o := .lst (List.replicate ((((p.map V.int).length : Nat) : Int) + (((q.map V.int).length : Nat) : Int) - 1).toNat [V.int 0]).flatten) m2))
  have f3 := upd_same (H := upd H2 l1 (.lst [.int 0])) (a := l) (o := .lst (List.replicate ((((p.map V.int).length : Nat) : Int) + (((q.map V.int).length : Nat) : Int) - 1).toNat [V.int 0]).flatten)
  have nl : H l = none := s2.free (Same.free (same_upd m1) m2)
  generalize upd (upd H2 l1 (.lst [.int 0])) l (.lst (List.replicate ((((p.map V.int).length : Nat) : Int) + (((q.map V.int).length : Nat) : Int) - 1).toNat [V.int 0]).flatten) = H3 at s3 f3 ⊢
  rw [rep_flat, e1] at f3
  -- the loops
  refine ⟨.ref a, rfl, a, _, rfl, same_sqT s3 hA, ?_⟩
  refine for_enumT (fun i σ H' => (∃ y3 y4 y5 y6, σ = [some (.ref a), some (.ref b), some (.ref l), y3, y4, y5, y6]) ∧ Same H H' ∧ ∃ found : List Int, H' l = some (.lst (found.map V.int)) ∧ found.length = p.length + q.length - 1 ∧ ∀ x, ev found x = ev (p.take i) x * ev q x)
    ⟨⟨_, _, _, _, rfl⟩, s3, _, f3, by rw [List.length_replicate], fun x => by rw [ev_replicate]; simp⟩ (fun i σ H' z => same_sqT z.2.1 hA) (fun i u T σ H' hu z nT => ?_) fun σ H' z => ?_
  · obtain ⟨⟨y3, y4, y5, y6, rfl⟩, z1, found, z2, z3, z4⟩ := z
    have hi : i < p.length := by have := (List.getElem?_eq_some_iff.mp hu).1; rwa [List.length_map] at this
    obtain rfl : V.int (cf p i) = u := Option.some.inj ((map_at hi).symm.trans hu)
    refine ⟨T, _, rfl, .of upd_same, rfl, _, _, rfl, _, _, rfl, rfl, .ref b, rfl, b, _, rfl, same_sqT (z1.trans (same_upd nT)) hB, ?_⟩
    refine for_enumT (fun j σ H' => (∃ y5 y6, σ = [some (.ref a), some (.ref b), some (.ref l), some (.int i), some (.int (cf p i)), y5, y6]) ∧ Same H H' ∧ ∃ found : List Int, H' l = some (.lst (found.map V.int)) ∧ found.length = p.length + q.length - 1 ∧ ∀ x, ev found x = ev (p.take i) x * ev q x + cf p i * x ^ i * ev (q.take j) x)
      ⟨⟨_, _, rfl⟩, z1.trans (same_upd nT), found, by rw [upd_ne (ne_of_none z2 nT)]; exact z2, z3, fun x => by rw [z4]; simp⟩ (fun i σ H' z => same_sqT z.2.1 hB) (fun j u T2 σ H' hu z nT2 => ?_) fun σ H' z => ?_
    · obtain ⟨⟨y5, y6, rfl⟩, w1, fd, w2, w3, w4⟩ := z
      have hj : j < q.length := by have := (List.getElem?_eq_some_iff.mp hu).1; rwa [List.length_map] at this
      obtain rfl : V.int (cf q j) = u := Option.some.inj ((map_at hj).symm.trans hu)
      have w2' : (upd H' T2 (.tup [.int (j : Nat), .int (cf q j)])) l = some (.lst (fd.map V.int)) := by rw [upd_ne (ne_of_none w2 nT2)]; exact w2
      have hij : i + j < fd.length := by omega
      refine ⟨T2, _, rfl, .of upd_same, rfl, _, _, rfl, _, _, rfl, rfl, .ref l, rfl, .int i, rfl, .int j, rfl, _, _, rfl, rfl, l, _, i + j, _, rfl, congrArg V.int (Int.natCast_add i j).symm, .of w2', map_at hij,
        .int (cf p i), rfl, .int (cf q j), rfl, _, _, rfl, rfl, hm _ (by rw [cf_lt hi]; exact List.getElem_mem hi) _ (by rw [cf_lt hj]; exact List.getElem_mem hj), _, _, rfl, rfl, l, _, _, i + j, rfl, rfl, w2', ?_, ⟨_, _, rfl⟩, ?_, fd.set (i + j) (cf fd (i + j) + cf p i * cf q j), ?_, ?_, fun x => ?_⟩
      · rw [List.length_map, ← Int.natCast_add]; exact ixN_nat hij
      · intro b' o e
        rw [upd_ne (ne_of_none e nl), upd_ne (ne_of_none (w1 _ _ e) nT2)]
        exact w1 _ _ e
      · rw [upd_same, List.map_set]
      · rw [List.length_set, w3]
      · rw [ev_set hij, w4, ev_take hj, Int.pow_add]; grind
    · obtain ⟨⟨y5, y6, rfl⟩, w1, fd, w2, w3, w4⟩ := z
      refine ⟨⟨_, _, _, _, rfl⟩, w1, fd, w2, w3, fun x => ?_⟩
      rw [w4, ev_take hi, List.length_map, List.take_length]; grind
  · obtain ⟨⟨y3, y4, y5, y6, rfl⟩, z1, found, z2, z3, z4⟩ := z
    refine ⟨.ref l, rfl, l, _, rfl, .of z2, fun H'' v s'' hv => k _ _ (z1.trans s'') ?_⟩
    rw [trim_ev (q := pmul p q) fun x => by rw [z4, List.length_map, List.take_length, ev_pmul]] at hv
    exact hv
end
end CN
end
section
set_option Elab.async false
set_option linter.all false
set_option maxRecDepth 100000
set_option maxHeartbeats 4000000
namespace PQ
theorem fdiv_dvd {a b : Int} (hb : b ≠ 0) (h : b ∣ a) : a.fdiv b = a / b := by
  obtain ⟨c, rfl⟩ := h
  rw [Int.mul_fdiv_cancel_left _ hb, Int.mul_ediv_cancel_left _ hb]
theorem ct_take {p : List Int} {i : Nat} (h : i < p.length) : ct (p.take (i + 1)) = Nat.gcd (ct (p.take i)) (cf p i).natAbs := by
  have e : ∀ (l : List Int) (c : Int), ct (l ++ [c]) = Nat.gcd (ct l) c.natAbs := by
    intro l c
    induction l with
    | nil => simp
    | cons a l ih => rw [List.cons_append, ct_cons, ct_cons, ih, Nat.gcd_assoc]
  rw [List.take_add_one, List.getElem?_eq_getElem h, cf_lt h]
  exact e _ _
end PQ
namespace CN
open PySem PySem.Spec PyProof.Rows L2 PQ
theorem at_lead {p : List Int} (h : p ≠ []) : atI (p.map V.int) (-1) = some (.int (lead p)) := by
  have e : p.map V.int = p.dropLast.map V.int ++ [.int (p.getLast h)] := by
    rw [← List.map_singleton, ← List.map_append, List.dropLast_concat_getLast]
  have e2 : lead p = p.getLast h := by
    have hl := List.length_pos_iff.mpr h
    unfold lead
    rw [cf_lt (by omega), List.getLast_eq_getElem]
  rw [e, e2]
  exact atI_last _ _
theorem room100 {A : Around} (hr : Room 32 A) : A.depth + 100 < recursionLimit := by have := hr.dp; omega
section
variable {P : Program} {w : World} {K : PySem.W.Frag} {mg : Str → Option Value} {base : Heap}
abbrev sContent : Stmt := topS 24
abbrev nContent : List Str := ["one", "found", "a"]
theorem scContent : FnScope nContent ["one"] (defScope sContent) := ⟨rfl, rfl, rfl, by decide +kernel, rfl, by decide +kernel, by decide +kernel⟩
def spContent (K : PySem.W.Frag) : Sp := fun vs H Q _ => ∃ (x : V) (p : List Int), vs = [x] ∧ Pl K H x p ∧ Q (.int (ct p)) H
theorem ok_content (D : Df K mg "content" sContent ["one"]) (B : Bi mg) : Ok P w K mg base 1 "content" ["one"] (spContent K) := by
  refine D.ok (k := 0) scContent (fun vs H Q E h => by obtain ⟨x, p, rfl, _⟩ := h; rfl) fun f cdv A outer s H vs Q E hr h => ?_
  obtain ⟨x, p, rfl, ⟨a, rfl, hA⟩, k⟩ := h
  refine ⟨_, pss_cons (ps_set (i := 1) scContent.nd rfl (.inl rfl) pe_int)
    (pss_cons (ps_for PassesOwn.never rfl (pi_tup (pv 0)) (pg_name (i := 2) scContent.nd rfl (.inl rfl)) (pss_one (ps_set (i := 1) scContent.nd rfl (.inl rfl) (pgcd B.gcd (by rfl) (pv 1) (pv 2)))))
    (pss_one (ps_ret (pv 1)))), ?_⟩
  refine ⟨.ref a, rfl, a, rfl, ⟨_, hA⟩, for_tup (xs := p.map V.int) (fun i σ H' => ∃ y, σ = [some (.ref a), some (.int (ct (p.take i))), y] ∧ H' = H) ⟨none, rfl, rfl⟩ (fun i σ H' _ z => by obtain ⟨y, _, rfl⟩ := z; exact hA) (fun i u σ H' hu z => ?_) fun σ H' z => ?_⟩
  · obtain ⟨y, rfl, rfl⟩ := z
    have hi : i < p.length := by have := (List.getElem?_eq_some_iff.mp hu).1; rwa [List.length_map] at this
    obtain rfl : V.int (cf p i) = u := Option.some.inj ((map_at hi).symm.trans hu)
    refine ⟨_, rfl, _, rfl, _, _, rfl, some (.int (cf p i)), ?_, rfl⟩
    rw [ct_take hi, Int.natAbs_natCast]
    rfl
  · obtain ⟨y, rfl, rfl⟩ := z
    rw [List.length_map, List.take_length]
    exact ⟨_, rfl, k⟩
abbrev sPrim : Stmt := topS 25
abbrev nPrim : List Str := ["one", "shared", "a"]
theorem scPrim : FnScope nPrim ["one"] (defScope sPrim) := ⟨rfl, rfl, rfl, by decide +kernel, rfl, by decide +kernel, by decide +kernel⟩
def spPrim (K : PySem.W.Frag) : Sp := fun vs H Q _ => ∃ (x : V) (p : List Int), vs = [x] ∧ Pl K H x p ∧ Trim p ∧ p.length ≤ 200 ∧ ∀ H' v, Same H H' → Pl K H' v (prim p) → Q v H'
theorem ok_prim (D : Df K mg "primitive" sPrim ["one"]) (B : Bi mg) (hB : PyBase P base) (G : Ok P w K mg base 1 "content" ["one"] (spContent K)) : Ok P w K mg base 33 "primitive" ["one"] (spPrim K) := by
  refine D.ok (k := 32) scPrim (fun vs H Q E h => by obtain ⟨x, p, rfl, _⟩ := h; rfl) fun f cdv A outer s H vs Q E hr h => ?_
  obtain ⟨x, p, rfl, ⟨a, rfl, hA⟩, tp, lp, k⟩ := h
  refine ⟨_, pss_cons (ps_if (pt_cmpR (op_eqD hr.units) (pv 0) (pe_tup pa_nil) (nomark _)) (pss_one (ps_ret (pe_tup pa_nil))) pss_nil)
    (pss_cons (ps_set (i := 1) scPrim.nd rfl (.inr rfl) (pc1 G (hr.mono (by decide)) (by rfl) (pv 0)))
    (pss_cons (ps_if (pt_cmpR op_lt (pe_ix ix_tup (pv 0) (pe_un un_neg pe_int) (fun _ _ => rfl)) pe_int (nomark _)) (pss_one (ps_set (i := 1) scPrim.nd rfl (.inr rfl) (pe_un un_neg (pv 1)))) pss_nil)
    (pss_one (ps_ret (pe_mapT B (by rfl) (pe_lc (own := [("a", 2)]) (g := gName 2) (tt := tYes) rfl scPrim.nd (pi_tup (pv 0)) (blkOk_by (own := [("a", 2)]) (N := nPrim) (sc := defScope sPrim) (by decide +kernel))
      (fun _ _ _ _ _ => pg_name (i := 2) scPrim.nd rfl (Or.inl rfl)) (fun _ _ _ _ _ => pts_nil) (fun _ _ _ _ _ => pe_op (op_fdivA hB rfl (room100 hr)) (pv 2) (pv 1)))))))), ?_⟩
  refine ⟨.ref a, rfl, by decide, fun t1 n1 => eq_pl (p := p) (q := []) ⟨a, rfl, same_sqT (same_upd n1) hA⟩ plNil ⟨_, rfl, ite2 (fun h1 => ?_) (fun h1 => ?_)⟩⟩
  · have h1 : p = [] := of_decide_eq_true h1
    refine ⟨by decide, fun t nt => k _ _ ((same_upd n1).trans (same_upd nt)) ?_⟩
    rw [h1]; exact plNil
  have hp : p ≠ [] := fun e => h1 (decide_eq_true e)
  have s1 := same_upd (o := .tup []) n1
  generalize (upd H t1 (.tup [])) = H1 at s1 ⊢
  have hA1 := same_sqT s1 hA
  have c0 := ct_pos hp tp
  have fin : ∀ z : Int, z = pfac p → tRet (tMapT K 0 2 [2] (tOp (rI (fun _ j => j ≠ 0) fun i j => .int (i.fdiv j)) (tVar 2) (tVar 1))) { nx := fun _ H' => Q .non H', rt := Q } [some (.ref a), some (.int z), none] H1 := fun z hz => by
    refine ⟨a, p, fun c => c.fdiv z, rfl, hA1, by omega, fun _ => rfl, fun c hc H' R _ r => ⟨_, rfl, _, rfl, c, z, rfl, rfl, by rw [hz]; exact pfac_ne hp tp, r⟩, fun H' v s2 hv => k _ _ (s1.trans s2) ?_⟩
    have e : p.map (fun c => c.fdiv z) = prim p := by
      unfold prim dv
      refine List.map_congr_left fun c hc => ?_
      rw [hz]
      exact fdiv_dvd (pfac_ne hp tp) (pfac_dvd c hc)
    rw [e] at hv
    exact hv
  refine ⟨.ref a, rfl, .ref a, p, rfl, ⟨a, rfl, hA1⟩, .ref a, rfl, 1, rfl, a, _, -1, _, rfl, rfl, hA1, at_lead hp, _, 0, rfl, rfl, _, rfl, ite2 (fun h2 => ?_) (fun h2 => ?_)⟩
  · have h2 := of_decide_eq_true h2
    exact ⟨_, rfl, _, rfl, fin _ (by unfold pfac; rw [if_pos h2])⟩
  · have h2 : ¬ lead p < 0 := fun z => h2 (decide_eq_true z)
    exact fin _ (by unfold pfac; rw [if_neg h2])
end
end CN
end
section
set_option Elab.async false
set_option linter.all false
set_option maxRecDepth 100000
set_option maxHeartbeats 4000000
namespace CN
open PySem PySem.Spec PyProof.Rows L2 PQ
theorem mulOk_pow {i j : Int} {a b : Nat} (hi : i.natAbs ≤ 2 ^ a) (hj : j.natAbs ≤ 2 ^ b) (h : a + b + 2 ≤ 134217728) : IntMulOk i j := by
  have bits : ∀ (z : Int) (c : Nat), z.natAbs ≤ 2 ^ c → Builtin.Int.intBits z ≤ c + 1 := fun z c hz => by
    unfold Builtin.Int.intBits
    split
    · omega
    · rename_i hz0
      have hz1 : z.natAbs ≠ 0 := fun e => hz0 (by rw [Int.natAbs_eq_zero.mp e]; rfl)
      have h2 : z.natAbs < 2 ^ (c + 1) := by
        rw [Nat.pow_succ]
        have := Nat.pow_pos (a := 2) (n := c) (by decide)
        omega
      have := (Nat.log2_lt hz1).mpr h2
      omega
  have h1 := bits i a hi
  have h2 := bits j b hj
  have e : bitsLine = 134217728 := by decide
  intro q
  have q2 := (Bool.and_eq_true _ _ ▸ q).2
  have q3 := of_decide_eq_true (show decide _ = true from q2)
  rw [e] at q3
  omega
theorem mk1_pow {c : Int} {p : List Int} {a b : Nat} (hi : c.natAbs ≤ 2 ^ a) (hj : n1 p ≤ 2 ^ b) (h : a + b + 2 ≤ 134217728) : Mk1 c p := fun d hd => mulOk_pow hi (Nat.le_trans (natAbs_le_n1 hd) hj) h
theorem mk2_pow {p q : List Int} {a b : Nat} (hi : n1 p ≤ 2 ^ a) (hj : n1 q ≤ 2 ^ b) (h : a + b + 2 ≤ 134217728) : Mk2 p q := fun d hd => mk1_pow (Nat.le_trans (natAbs_le_n1 hd) hi) hj h
/-- zeros ahead of a tuple's ints -/
def tShift (K : PySem.W.Frag) (i j : Nat) : TE := fun σ H Q => ∃ (b : Addr) (q : List Int) (n : Nat), σ[i]? = some (some (.ref b)) ∧ σ[j]? = some (some (.int n)) ∧ SqT K H b (q.map V.int) ∧ n ≤ 200 ∧ q.length ≤ 200 ∧
  ∀ H' v, Same H H' → Pl K H' v (psh n q) → Q v H'
theorem pe_shift {X : Cx} {i j : Nat} {e : Expr} (h : PE X e (tTup (StX.tStar X.K (tOp rRep (tLst (tCons (tC (.int 0)) tNil)) (tVar j)) (StX.tStar X.K (tVar i) tNil)))) : PE X e (tShift X.K i j) := by
  refine PE.imp h fun σ H Q z => ?_
  obtain ⟨b, q, n, h1, h2, hB, ln, lq, k⟩ := z
  refine ⟨by decide, fun l1 m1 => ⟨.int n, h2, l1, _, _, rfl, rfl, upd_same, by omega, by omega, by rw [Int.toNat_natCast]; exact small_line (by show 1 * _ ≤ _; omega), fun l2 m2 => ⟨l2, _, rfl, .inr (.of upd_same), .ref b, h1, b, _, rfl, .inl (same_sqT ((same_upd m1).trans (same_upd m2)) hB), ?_, fun l3 m3 => ?_⟩⟩⟩
  · rw [rep_flat, Int.toNat_natCast, List.append_nil, List.length_append, List.length_map, List.length_map, List.length_replicate]
    exact small_line (by omega)
  · have e : (List.replicate (n : Int).toNat [V.int 0]).flatten ++ (q.map V.int ++ []) = (psh n q).map V.int := by
      rw [rep_flat, Int.toNat_natCast, List.append_nil]
      unfold psh
      rw [List.map_append]
    refine k _ _ ((same_upd m1).trans ((same_upd m2).trans (same_upd m3))) ⟨l3, rfl, .of ?_⟩
    rw [upd_same, e]
/-- the last int of a tuple, or its negative, by the sign of an int -/
def tCond (K : PySem.W.Frag) (i j : Nat) : TE := fun σ H Q => ∃ (c : Addr) (r : List Int) (l : Int), σ[i]? = some (some (.ref c)) ∧ σ[j]? = some (some (.int l)) ∧ SqT K H c (r.map V.int) ∧ r ≠ [] ∧ Q (.int (if 0 < l then lead r else -lead r)) H
theorem pe_cond {X : Cx} {i j : Nat} {e : Expr} (h : PE X e (tIf (tTest (tOp (rI0 fun i j => .bl (decide (j < i))) (tVar j) (tC (.int 0)))) (tOp (rIxT X.K) (tVar i) (tUn (rU fun i => .int (-i)) (tC (.int 1)))) (tUn (rU fun i => .int (-i)) (tOp (rIxT X.K) (tVar i) (tUn (rU fun i => .int (-i)) (tC (.int 1))))))) :
    PE X e (tCond X.K i j) := by
  refine PE.imp h fun σ H Q z => ?_
  obtain ⟨c, r, l, h1, h2, hC, hr, k⟩ := z
  refine ⟨.int l, h2, l, 0, rfl, rfl, _, rfl, ite2 (fun h3 => ?_) (fun h3 => ?_)⟩
  · have h3 := of_decide_eq_true h3
    rw [if_pos h3] at k
    exact ⟨.ref c, h1, 1, rfl, c, _, -1, _, rfl, rfl, hC, at_lead hr, k⟩
  · have h3 : ¬ 0 < l := fun z => h3 (decide_eq_true z)
    rw [if_neg h3] at k
    exact ⟨.ref c, h1, 1, rfl, c, _, -1, _, rfl, rfl, hC, at_lead hr, _, rfl, k⟩
section
variable {P : Program} {w : World} {K : PySem.W.Frag} {mg : Str → Option Value} {base : Heap}
abbrev sRem : Stmt := topS 26
abbrev nRem : List Str := ["one", "other", "rest", "lead", "shift", "part", "shared", "a"]
theorem scRem : FnScope nRem ["one", "other"] (defScope sRem) := ⟨rfl, rfl, rfl, by decide +kernel, rfl, by decide +kernel, by decide +kernel⟩
def spRem (K : PySem.W.Frag) : Sp := fun vs H Q _ => ∃ (u v : V) (o h : List Int) (x y : Nat), vs = [u, v] ∧ Pl K H u o ∧ Pl K H v h ∧ Trim o ∧ Trim h ∧ h ≠ [] ∧ o.length ≤ 100 ∧ h.length ≤ 100 ∧ n1 o ≤ 2 ^ x ∧ n1 h ≤ 2 ^ y ∧
  x + (o.length + 1 - h.length) * (y + 1) ≤ 43000000 ∧ y ≤ 43000000 ∧
  ∀ H' z r, Same H H' → Pl K H' z r → Trim r → r.length < h.length → Rem o h r → n1 r ≤ 2 ^ (x + (o.length + 1 - h.length) * (y + 1)) → Q z H'
theorem ok_rem (D : Df K mg "remainder" sRem ["one", "other"]) (B : Bi mg) (hB : PyBase P base) (Gc : Ok P w K mg base 1 "content" ["one"] (spContent K)) (Gs : Ok P w K mg base 2 "scaled" ["one", "factor"] (spScaled K))
    (Gm : Ok P w K mg base 3 "poly_minus" ["one", "other"] (spMinus K)) : Ok P w K mg base 33 "remainder" ["one", "other"] (spRem K) := by
  refine D.ok (k := 32) scRem (fun vs H Q E h => by obtain ⟨u, v, o, h, x, y, rfl, _⟩ := h; rfl) fun f cdv A outer s H vs Q E hr h => ?_
  obtain ⟨u, v, o, h, x, y, rfl, ⟨a, rfl, hA⟩, ⟨b, rfl, hH⟩, to, th, hh, lo, lh, bo, bh, hz, hy, k⟩ := h
  refine ⟨_, pss_cons (ps_par (i := 2) (j := 3) rfl scRem.nd rfl rfl (by decide) rfl rfl (pa_cons (pv 0) (pa_cons (pe_ix ix_tup (pv 1) (pe_un un_neg pe_int) (fun _ _ => rfl)) pa_nil)) (by rfl))
    (pss_cons (ps_while PassesOwn.never (pt_cmpR op_ge (pb1 call_len_seq B.len bt_len (by rfl) (pv 2)) (pb1 call_len_seq B.len bt_len (by rfl) (pv 1)) (nomark _))
      (pss_cons (ps_set (i := 4) scRem.nd rfl (.inl rfl) (pe_op op_sub (pb1 call_len_seq B.len bt_len (by rfl) (pv 2)) (pb1 call_len_seq B.len bt_len (by rfl) (pv 1))))
      (pss_cons (ps_set (i := 5) scRem.nd rfl (.inl rfl) (pc2 Gs (hr.mono (by decide)) (by rfl) (pe_shift (i := 1) (j := 4) (pe_tup (StX.pa_star (pe_op op_rep (pe_lst (pa_cons pe_int pa_nil)) (pv 4)) (StX.pa_star (pv 1) pa_nil))))
        (pe_cond (i := 2) (j := 3) (pe_ifExp (pt_cmpR op_gt (pv 3) pe_int (nomark _)) (pe_ix ix_tup (pv 2) (pe_un un_neg pe_int) (fun _ _ => rfl)) (pe_un un_neg (pe_ix ix_tup (pv 2) (pe_un un_neg pe_int) (fun _ _ => rfl)))))))
      (pss_one (ps_set (i := 2) scRem.nd rfl (.inl rfl) (pc2 Gm (hr.mono (by decide)) (by rfl) (pc2 Gs (hr.mono (by decide)) (by rfl) (pv 2) (pb1 call_abs B.abs bt_abs (by rfl) (pv 3))) (pv 5)))))))
    (pss_cons (ps_set (i := 6) scRem.nd rfl (.inr rfl) (pc1 Gc (hr.mono (by decide)) (by rfl) (pv 2)))
    (pss_one (ps_ret (pe_ifExp (pt_cmpR op_gt (pv 6) pe_int (nomark _))
      (pe_mapT (j := 2) B (by rfl) (pe_lc (own := [("a", 7)]) (g := gName 7) (tt := tYes) rfl scRem.nd (pi_tup (pv 2)) (blkOk_by (own := [("a", 7)]) (N := nRem) (sc := defScope sRem) (by decide +kernel))
        (fun _ _ _ _ _ => pg_name (i := 7) scRem.nd rfl (Or.inl rfl)) (fun _ _ _ _ _ => pts_nil) (fun _ _ _ _ _ => pe_op (op_fdivA hB rfl (room100 hr)) (pv 7) (pv 6)))) (pv 2)))))), ?_⟩
  refine ⟨.ref a, rfl, .ref b, rfl, 1, rfl, b, _, -1, _, rfl, rfl, hH, at_lead hh, _, _, rfl, ?_⟩
  have pl := List.length_pos_iff.mpr hh
  have lh0 := th hh
  refine ⟨fun m σ H' => ∃ (r : List Int) (c : Addr) (j : Nat) (y4 y5 : Option V), m = r.length ∧ σ = [some (.ref a), some (.ref b), some (.ref c), some (.int (lead h)), y4, y5, none, none] ∧ Same H H' ∧ SqT K H' c (r.map V.int) ∧ Trim r ∧ r.length ≤ o.length ∧
      j ≤ o.length - r.length ∧ j ≤ o.length + 1 - h.length ∧ n1 r ≤ 2 ^ (x + j * (y + 1)) ∧ ∃ (mm : Int) (ww : List Int), mm ≠ 0 ∧ ∀ t, mm * ev o t = ev ww t * ev h t + ev r t,
    ⟨o.length, o, a, 0, none, none, rfl, rfl, Same.refl H, hA, to, Nat.le_refl _, by omega, by omega, by simpa using bo, 1, [], by decide, fun t => by simp⟩, fun m σ H' hW => ?_⟩
  obtain ⟨r, c, j, y4, y5, rfl, rfl, s1, hC, tr, lr, j1, j2, br, mm, ww, hmm, er⟩ := hW
  have hle : x + j * (y + 1) ≤ x + (o.length + 1 - h.length) * (y + 1) := Nat.add_le_add_left (Nat.mul_le_mul_right _ j2) _
  refine ⟨.ref c, rfl, c, _, rfl, .inr hC, .ref b, rfl, b, _, rfl, .inr (same_sqT s1 hH), _, _, rfl, rfl, _, rfl, ite2 (fun h1 => ?_) (fun h1 => ?_)⟩
  · -- one step
    have h1 := of_decide_eq_true h1
    have h1 : h.length ≤ r.length := by rw [List.length_map, List.length_map] at h1; omega
    have hrn : r ≠ [] := fun e => by rw [e] at h1; simp at h1; exact hh h1
    have hsh : ((((r.map V.int).length : Nat) : Int) - (((h.map V.int).length : Nat) : Int)) = ((r.length - h.length : Nat) : Int) := by rw [List.length_map, List.length_map]; omega
    refine ⟨fun σ' H'' => ∃ r' : List Int, r'.length < r.length ∧ ∃ (c : Addr) (j : Nat) (y4 y5 : Option V), σ' = [some (.ref a), some (.ref b), some (.ref c), some (.int (lead h)), y4, y5, none, none] ∧ Same H H'' ∧ SqT K H'' c (r'.map V.int) ∧ Trim r' ∧ r'.length ≤ o.length ∧
        j ≤ o.length - r'.length ∧ j ≤ o.length + 1 - h.length ∧ n1 r' ≤ 2 ^ (x + j * (y + 1)) ∧ ∃ (mm : Int) (ww : List Int), mm ≠ 0 ∧ ∀ t, mm * ev o t = ev ww t * ev h t + ev r' t,
      fun σ' H'' ⟨r', q0, c', j', y4', y5', q1⟩ => ⟨r'.length, q0, r', c', j', y4', y5', rfl, q1⟩, ?_⟩
    refine ⟨.ref c, rfl, c, _, rfl, .inr hC, .ref b, rfl, b, _, rfl, .inr (same_sqT s1 hH), _, _, rfl, rfl, ?_⟩
    refine ⟨b, h, r.length - h.length, rfl, congrArg (fun z => some (some (V.int z))) hsh, same_sqT s1 hH, by omega, by omega, fun H2 z s2 hz2 => ?_⟩
    have hC2 := same_sqT s2 hC
    refine ⟨c, r, lead h, rfl, rfl, hC2, hrn, ?_⟩
    obtain ⟨fz, hfz⟩ : ∃ fz, fz = if 0 < lead h then lead r else -lead r := ⟨_, rfl⟩
    rw [← hfz]
    have hf1 : fz * lead h = ((lead h).natAbs : Int) * lead r := by
      rw [hfz]
      by_cases h0 : 0 < lead h
      · rw [if_pos h0, show ((lead h).natAbs : Int) = lead h by omega, Int.mul_comm]
      · rw [if_neg h0, show ((lead h).natAbs : Int) = -lead h by omega]; grind
    have hf2 : fz.natAbs = (lead r).natAbs := by rw [hfz]; split <;> omega
    have br2 := Nat.le_trans br (Nat.pow_le_pow_right (by decide) hle)
    have hlr : (lead r).natAbs ≤ 2 ^ (x + (o.length + 1 - h.length) * (y + 1)) := Nat.le_trans (cf_le_n1 _ _) br2
    have hlh : (lead h).natAbs ≤ 2 ^ y := Nat.le_trans (cf_le_n1 _ _) bh
    refine ⟨z, psh (r.length - h.length) h, fz, rfl, hz2, by rw [length_psh]; omega, mk1_pow (by rw [hf2]; exact hlr) (by rw [n1_psh]; exact bh) (by omega), fun H3 z3 s3 hz3 => ?_⟩
    have hC3 := same_sqT s3 hC2
    refine ⟨.ref c, rfl, _, rfl, _, rfl, ?_⟩
    have hab : (if lead h < 0 then -lead h else lead h) = ((lead h).natAbs : Int) := by split <;> omega
    refine ⟨.ref c, r, _, rfl, ⟨c, rfl, hC3⟩, by omega, mk1_pow (a := y) (by rw [hab, Int.natAbs_natCast]; exact hlh) br2 (by omega), fun H4 z4 s4 hz4 => ?_⟩
    rw [hab] at hz4
    refine ⟨z3, rfl, z4, z3, _, _, rfl, hz4, hz3.same s4, Nat.le_trans (length_trim _) (by rw [length_psc]; omega), Nat.le_trans (length_trim _) (by rw [length_psc, length_psh]; omega), fun H5 z5 s5 hz5 => ?_⟩
    have e5 : trim (padd (trim (psc ((lead h).natAbs : Int) r)) (psc (-1) (trim (psc fz (psh (r.length - h.length) h))))) = trim (padd (psc ((lead h).natAbs : Int) r) (psc (-fz) (psh (r.length - h.length) h))) :=
      trim_ev fun t => by rw [ev_padd, ev_padd, ev_trim, ev_psc, ev_psc, ev_psc, ev_trim, ev_psc]; grind
    rw [e5] at hz5
    obtain ⟨g1, g2, g3, g4⟩ := rem_step hrn hh h1 hf1 hf2 rfl
    generalize trim (padd (psc ((lead h).natAbs : Int) r) (psc (-fz) (psh (r.length - h.length) h))) = r' at *
    obtain ⟨c', rfl, hC'⟩ := hz5
    refine ⟨r', g2, c', j + 1, _, _, rfl, s1.trans (s2.trans (s3.trans (s4.trans s5))), hC', g1, by omega, by omega, by omega, ?_, ((lead h).natAbs : Int) * mm, padd (psc ((lead h).natAbs : Int) ww) (psc fz (psh (r.length - h.length) [1])), mul_ne (by omega) hmm, fun t => ?_⟩
    · have e6 : x + (j + 1) * (y + 1) = (x + j * (y + 1)) + y + 1 := by rw [Nat.add_mul]; omega
      rw [e6, Nat.pow_succ, Nat.pow_add]
      have := Nat.mul_le_mul br bh
      omega
    · rw [g4, ev_padd, ev_psc, ev_psc, ev_psh]
      have := er t
      simp only [ev_cons, ev_nil]
      grind
  · -- behind the loop
    have h1 : ¬ h.length ≤ r.length := fun z => h1 (decide_eq_true (by rw [List.length_map, List.length_map]; omega))
    have br2 := Nat.le_trans br (Nat.pow_le_pow_right (by decide) hle)
    refine ⟨.ref c, rfl, .ref c, r, rfl, ⟨c, rfl, hC⟩, .int (ct r), rfl, _, 1, rfl, rfl, _, rfl, ite2 (fun h2 => ?_) (fun h2 => ?_)⟩
    · have h2 := of_decide_eq_true h2
      have hc0 : (ct r : Int) ≠ 0 := by omega
      refine ⟨c, r, fun d => d.fdiv (ct r), rfl, hC, by omega, fun _ => rfl, fun d hd H'' R _ q => ⟨_, rfl, _, rfl, d, _, rfl, rfl, hc0, q⟩, fun H'' v s2 hv => ?_⟩
      have e : r.map (fun d => d.fdiv (ct r)) = dv r (ct r) := List.map_congr_left fun d hd => fdiv_dvd hc0 (ct_dvd hd)
      rw [e] at hv
      have e2 := dv_ct r
      refine k _ _ _ (s1.trans s2) hv (Trim.of_psc (c := (ct r : Int)) (by rw [e2]; exact tr)) (by rw [length_dv]; omega) ⟨mm, ct r, ww, hmm, hc0, fun t => ?_⟩ (Nat.le_trans ?_ br2)
      · have e9 := ev_psc (ct r : Int) (dv r (ct r)) t
        rw [e2] at e9
        rw [er, ← e9]
      · have := n1_of_psc (p := dv r (ct r)) hc0
        rwa [e2] at this
    · exact ⟨_, rfl, k _ _ _ s1 ⟨c, rfl, hC⟩ tr (by omega) ⟨mm, 1, ww, hmm, by decide, fun t => by rw [er]; grind⟩ br2⟩
end
end CN
end
section
set_option Elab.async false
set_option linter.all false
set_option maxRecDepth 100000
set_option maxHeartbeats 4000000
namespace PQ
/-- the product of a divisor and the first places of the quotient: the place that the division looks at -/
theorem top_at {o v rest : List Int} {i : Nat} (ho : o ≠ []) (hi : i < v.length) (h : ∀ x, ev rest x = ev o x * ev (v.take (i + 1)) x) : cf rest (i + (o.length - 1)) = lead o * cf v i := by
  have e1 := ev_inj (p := rest) (q := pmul o (v.take (i + 1))) (N := 0) (fun x _ => by rw [ev_pmul, h]) (i + (o.length - 1))
  have hn : v.take (i + 1) ≠ [] := by
    intro e
    have := congrArg List.length e
    rw [List.length_take, List.length_nil] at this
    omega
  have e2 := lead_pmul ho hn
  have e3 := length_pmul o (v.take (i + 1)) ho hn
  have lv : (v.take (i + 1)).length = i + 1 := by rw [List.length_take]; omega
  have pl := List.length_pos_iff.mpr ho
  rw [e1]
  have e4 : i + (o.length - 1) = (pmul o (v.take (i + 1))).length - 1 := by rw [e3, lv]; omega
  rw [e4]
  show lead _ = _
  rw [e2]
  congr 1
  unfold lead
  rw [lv, cf_lt (by rw [lv]; omega), cf_lt hi]
  simp
theorem set_found {q : List Int} {t : Nat} (h : t < q.length) : (List.replicate (t + 1) 0 ++ q.drop (t + 1)).set t (cf q t) = List.replicate t 0 ++ q.drop t := by
  rw [List.replicate_succ', List.append_assoc, List.set_append_right _ _ (by simp)]
  congr 1
  rw [List.length_replicate, Nat.sub_self, cf_lt h, List.drop_eq_getElem_cons h]
  rfl
end PQ
namespace CN
open PySem PySem.Spec PyProof.Rows L2 PQ
section
variable {P : Program} {w : World} {K : PySem.W.Frag} {mg : Str → Option Value} {base : Heap}
abbrev sCommon : Stmt := topS 27
theorem scCommon : FnScope ["one", "other"] ["one", "other"] (defScope sCommon) := ⟨rfl, rfl, rfl, by decide +kernel, rfl, by decide +kernel, by decide +kernel⟩
def spCommon (K : PySem.W.Frag) : Sp := fun vs H Q _ => ∃ (u v : V) (a b : List Int), vs = [u, v] ∧ Pl K H u a ∧ Pl K H v b ∧ Trim a ∧ Trim b ∧ a ≠ [] ∧ a.length ≤ 13 ∧ b.length ≤ 13 ∧ n1 a ≤ 2 ^ 200 ∧ n1 b ≤ 2 ^ 200 ∧
  ∀ H' z g, Same H H' → Pl K H' z g → GC a b g → Q z H'
theorem ok_common (D : Df K mg "common" sCommon ["one", "other"]) (Gr : Ok P w K mg base 33 "remainder" ["one", "other"] (spRem K)) (Gp : Ok P w K mg base 33 "primitive" ["one"] (spPrim K)) :
    Ok P w K mg base 34 "common" ["one", "other"] (spCommon K) := by
  refine D.ok (k := 33) scCommon (fun vs H Q E h => by obtain ⟨u, v, a, b, rfl, _⟩ := h; rfl) fun f cdv A outer s H vs Q E hr h => ?_
  obtain ⟨u, v, a, b, rfl, hA, hB, ta, tb, ha, la, lb, na, nb, k⟩ := h
  refine ⟨_, pss_cons (ps_while PassesOwn.never (pt_cmpR (op_neD hr.units) (pv 1) (pe_tup pa_nil) (nomark _))
      (pss_one (ps_par (i := 0) (j := 1) rfl scCommon.nd rfl rfl (by decide) rfl rfl (pa_cons (pv 1) (pa_cons (pc1 Gp hr (by rfl) (pc2 Gr hr (by rfl) (pv 0) (pv 1))) pa_nil)) (by rfl))))
    (pss_one (ps_ret (pc1 Gp hr (by rfl) (pv 0)))), ?_⟩
  refine ⟨fun m σ H' => ∃ (u v : V) (o h : List Int), m = h.length ∧ σ = [some u, some v] ∧ Same H H' ∧ Pl K H' u o ∧ Pl K H' v h ∧ CI a b o h ∧ o.length ≤ 13 ∧ h.length ≤ 13 ∧ Bits o h,
    ⟨b.length, u, v, a, b, rfl, rfl, Same.refl H, hA, hB, CI.start ta tb ha, la, lb, Bits.start la lb na nb⟩, fun m σ H' hW => ?_⟩
  obtain ⟨u, v, o, h, rfl, rfl, s1, hO, hH, I, lo, lh, BB⟩ := hW
  refine ⟨v, rfl, by decide, fun t nt => ⟨_, _, (hH.same (same_upd nt)).dp, (plNil : Pl K _ _ []).dp, shaped_pl h, shaped_pl [], ?_⟩⟩
  rw [eqv_pl]
  have s2 := s1.trans (same_upd (o := .tup []) nt)
  have hO2 := hO.same (same_upd (o := .tup []) nt)
  have hH2 := hH.same (same_upd (o := .tup []) nt)
  generalize (upd H' t (.tup [])) = H2 at s2 hO2 hH2 ⊢
  refine ⟨_, rfl, ite2 (fun h1 => ?_) (fun h1 => ?_)⟩
  · have hh : h ≠ [] := fun e => by rw [e] at h1; exact absurd h1 (by decide)
    obtain ⟨x, y, b1, b2, b3, b4, b5⟩ := BB.step hh lo lh
    refine ⟨fun σ' H'' => ∃ (r : List Int) (v' : V), r.length < h.length ∧ σ' = [some v, some v'] ∧ Same H H'' ∧ Pl K H'' v h ∧ Pl K H'' v' r ∧ CI a b h r ∧ Bits h r,
      fun σ' H'' ⟨r, v', q0, q1, q2, q3, q4, q5, q6⟩ => ⟨r.length, q0, v, v', h, r, rfl, q1, q2, q3, q4, q5, lh, by omega, q6⟩, ?_⟩
    refine ⟨v, rfl, u, rfl, v, rfl, u, v, o, h, x, y, rfl, hO2, hH2, I.to, I.th, hh, by omega, by omega, b1, b2, b3, b4, fun H3 z r s3 hz tr lr R br => ?_⟩
    refine ⟨z, r, rfl, hz, tr, by omega, fun H4 z4 s4 hz4 => ?_⟩
    have hpr : prim r = [] → r = [] := fun e => List.length_eq_zero_iff.mp (by rw [← prim_length, e]; rfl)
    refine ⟨v, z4, rfl, prim r, z4, by rw [prim_length]; exact lr, rfl, s2.trans (s3.trans s4), (hH2.same s3).same s4, hz4, ?_, b5 _ (by rw [prim_length]; exact lr) ?_⟩
    · obtain ⟨m, c, ww, hm, hc, er⟩ := R
      by_cases hr0 : r = []
      · subst hr0
        exact I.step hh Trim.nil ⟨m, c, ww, hm, hc, er⟩
      · exact I.step hh (prim_trim tr) ⟨m, c * pfac r, ww, hm, mul_ne hc (pfac_ne hr0 tr), fun t => by rw [er, prim_ev r]; grind⟩
    · by_cases hr0 : r = []
      · subst hr0
        exact br
      · exact Nat.le_trans (prim_n1 hr0 tr) br
  · have hh : h = [] := by
      refine Classical.byContradiction fun e => h1 ?_
      rw [decide_eq_false e]; rfl
    subst hh
    exact ⟨u, rfl, u, o, rfl, hO2, I.to, by omega, fun H3 z s3 hz => k _ _ _ (s2.trans s3) hz I.done⟩

/-! ### quotient -/
abbrev sQuot : Stmt := topS 28
abbrev nQuot : List Str := ["one", "other", "rest", "found", "at", "place", "b"]
theorem scQuot : FnScope nQuot ["one", "other"] (defScope sQuot) := ⟨rfl, rfl, rfl, by decide +kernel, rfl, by decide +kernel, by decide +kernel⟩
def spQuot (K : PySem.W.Frag) : Sp := fun vs H Q _ => ∃ (u v : V) (o h q : List Int), vs = [u, v] ∧ Pl K H u o ∧ Pl K H v h ∧ h ≠ [] ∧ Trim h ∧ Trim q ∧ q ≠ [] ∧ o = pmul h q ∧ o.length ≤ 100 ∧ Mk2 q h ∧
  ∀ H' z, Same H H' → Pl K H' z q → Q z H'
theorem ok_quot (D : Df K mg "quotient" sQuot ["one", "other"]) (B : Bi mg) (hB : PyBase P base) (G : Ok P w K mg base 1 "trimmed" ["some"] (spTrimmed K)) : Ok P w K mg base 33 "quotient" ["one", "other"] (spQuot K) := by
  refine D.ok (k := 32) scQuot (fun vs H Q E h => by obtain ⟨u, v, o, h, q, rfl, _⟩ := h; rfl) fun f cdv A outer s H vs Q E hr h => ?_
  obtain ⟨u, v, o, h, q, rfl, ⟨a, rfl, hA⟩, ⟨b, rfl, hH⟩, hh, th, tq, hq, ho, lo, hm, k⟩ := h
  refine ⟨_, pss_cons (ps_par (i := 2) (j := 3) rfl scQuot.nd rfl rfl (by decide) rfl rfl (pa_cons (pt1 call_list_of B.list bt_list (by rfl) (pv 0))
      (pa_cons (pe_op op_rep (pe_lst (pa_cons pe_int pa_nil)) (pb2 (call_max2 rfl) B.max bt_max (by rfl) pe_int (pe_op op_add (pe_op op_sub (pb1 call_len_seq B.len bt_len (by rfl) (pv 0)) (pb1 call_len_seq B.len bt_len (by rfl) (pv 1))) pe_int))) pa_nil)) (by rfl))
    (pss_cons (ps_for PassesOwn.never rfl (pi_range3 rfl B.range (pa_cons (pe_op op_sub (pb1 call_len_seq B.len bt_len (by rfl) (pv 3)) pe_int) (pa_cons (pe_un un_neg pe_int) (pa_cons (pe_un un_neg pe_int) pa_nil)))) (pg_name (i := 4) scQuot.nd rfl (.inl rfl))
      (pss_cons (ps_asg (pe_op (op_fdivA hB rfl (room100 hr)) (pe_ix ix_list (pv 2) (pe_op op_sub (pe_op op_add (pv 4) (pb1 call_len_seq B.len bt_len (by rfl) (pv 1))) pe_int) (fun _ _ => rfl)) (pe_ix ix_tup (pv 1) (pe_un un_neg pe_int) (fun _ _ => rfl))) (pg_sub (pv 3) (pv 4) set_list))
      (pss_one (ps_for PassesOwn.never rfl (pi_enumT (by rfl) B.enumerate (pa_cons (pv 1) pa_nil)) (pg_tup rfl (pgs_cons (pg_name (i := 5) scQuot.nd rfl (.inl rfl)) (pgs_cons (pg_name (i := 6) scQuot.nd rfl (.inl rfl)) pgs_nil)))
        (pss_one (ps_augS (pv 2) (pe_op op_add (pv 4) (pv 5)) pget_lst (pe_op op_mulA (pe_ix ix_list (pv 3) (pv 4) (fun _ _ => rfl)) (pv 6)) ip_sub set_list))))))
    (pss_one (ps_ret (pc1 G (hr.mono (by decide)) (by rfl) (pv 3))))), ?_⟩
  have pl := List.length_pos_iff.mpr hh
  have ql := List.length_pos_iff.mpr hq
  have lL : o.length = h.length + q.length - 1 := by rw [ho]; exact length_pmul h q hh hq
  obtain ⟨m, hm0⟩ : ∃ m, m = q.length := ⟨_, rfl⟩
  refine ⟨.ref a, rfl, a, _, rfl, .inr hA, fun l1 m1 => ⟨by decide, fun l2 m2 => ?_⟩⟩
  have s2 := (same_upd (o := .lst (o.map V.int)) m1).trans (same_upd (o := .lst [.int 0]) m2)
  refine ⟨.ref a, rfl, a, _, rfl, .inr (same_sqT s2 hA), .ref b, rfl, b, _, rfl, .inr (same_sqT s2 hH), _, _, rfl, rfl, _, _, rfl, rfl, 0, _, rfl, l2, _, _, rfl, rfl, upd_same, ?_⟩
  have em : (if (((o.map V.int).length : Nat) : Int) - (((h.map V.int).length : Nat) : Int) + 1 > 0 then (((o.map V.int).length : Nat) : Int) - (((h.map V.int).length : Nat) : Int) + 1 else 0) = (m : Int) := by
    rw [List.length_map, List.length_map]; split <;> omega
  rw [em]
  refine ⟨by omega, by omega, by rw [Int.toNat_natCast]; exact small_line (by show 1 * _ ≤ _; omega), fun l3 m3 => ⟨_, _, rfl, ?_⟩⟩
  have s3 := s2.trans (same_upd (o := .lst (List.replicate (m : Int).toNat [V.int 0]).flatten) m3)
  have n1H : H l1 = none := m1
  have n3H : H l3 = none := Same.free s2 m3
  have f1 : (upd (upd (upd H l1 (.lst (o.map V.int))) l2 (.lst [.int 0])) l3 (.lst (List.replicate (m : Int).toNat [V.int 0]).flatten)) l1 = some (.lst (o.map V.int)) :=
    same_upd m3 _ _ (same_upd m2 _ _ upd_same)
  have f3 := upd_same (H := upd (upd H l1 (.lst (o.map V.int))) l2 (.lst [.int 0])) (a := l3) (o := .lst (List.replicate (m : Int).toNat [V.int 0]).flatten)
  have n13 : l1 ≠ l3 := ne_of_none (same_upd (o := .lst [.int 0]) m2 _ _ (upd_same (H := H) (a := l1) (o := .lst (o.map V.int)))) m3
  generalize (upd (upd (upd H l1 (.lst (o.map V.int))) l2 (.lst [.int 0])) l3 (.lst (List.replicate (m : Int).toNat [V.int 0]).flatten)) = H3 at s3 f1 f3 ⊢
  rw [rep_flat, Int.toNat_natCast] at f3
  have lf : ((((List.replicate m (0 : Int)).map V.int).length : Nat) : Int) - 1 = (m : Int) - 1 := by rw [List.length_map, List.length_replicate]
  refine ⟨.ref l3, rfl, l3, _, rfl, .inl (.of f3), _, _, rfl, rfl, 1, rfl, 1, rfl, (m : Int) - 1, -1, -1, _, congrArg (fun z => [V.int z, V.int (-1), V.int (-1)]) lf, RgC.neg (by omega) (by omega) (by omega) (by omega), ?_⟩
  have en : ((m : Int) - 1 - (-1)).toNat = m := by omega
  rw [en]
  refine for_rangeC (lo := (m : Int) - 1) (c := -1) (n := m) (fun i σ H' => (∃ y4 y5 y6, σ = [some (.ref a), some (.ref b), some (.ref l1), some (.ref l3), y4, y5, y6]) ∧ Same H H' ∧ ∃ rest : List Int, H' l1 = some (.lst (rest.map V.int)) ∧ rest.length = o.length ∧
      (∀ x, ev rest x = ev h x * ev (q.take (m - i)) x) ∧ H' l3 = some (.lst ((List.replicate (m - i) 0 ++ q.drop (m - i)).map V.int)))
    ⟨⟨_, _, _, rfl⟩, s3, o, f1, rfl, fun x => by rw [Nat.sub_zero, hm0, List.take_length, ho, ev_pmul], by rw [Nat.sub_zero, hm0, List.drop_length, List.append_nil, ← hm0]; exact f3⟩ (fun i σ H' hi z => ?_) fun σ H' z => ?_
  · obtain ⟨⟨y4, y5, y6, rfl⟩, z1, rest, z2, z3, z4, z5⟩ := z
    obtain ⟨t, ht⟩ : ∃ t, t = m - 1 - i := ⟨_, rfl⟩
    have e1 : m - i = t + 1 := by omega
    have hat : (m : Int) - 1 + (i : Nat) * -1 = (t : Int) := by omega
    rw [e1] at z4 z5
    rw [hat]
    have htq : t < q.length := by omega
    have hH' := same_sqT z1 hH
    have top := top_at hh htq z4
    have hrl : t + (h.length - 1) < rest.length := by omega
    refine ⟨.ref l1, rfl, .int t, rfl, .ref b, rfl, b, _, rfl, .inr hH', _, _, rfl, rfl, _, _, rfl, rfl, l1, _, _, _, rfl, rfl, .of z2, at_of (j := t + (h.length - 1)) (by rw [List.length_map]; omega) (map_at hrl), .ref b, rfl, 1, rfl, b, _, -1, _, rfl, rfl, hH', at_lead hh, _, _, rfl, rfl, th hh, ?_⟩
    have ev1 : (cf rest (t + (h.length - 1))).fdiv (lead h) = cf q t := by rw [top, Int.mul_fdiv_cancel_left _ (th hh)]
    refine ⟨.ref l3, rfl, .int t, rfl, l3, _, _, t, rfl, rfl, z5, ?_, ?_⟩
    · rw [List.length_map, List.length_append, List.length_replicate, List.length_drop]
      exact ixN_nat (by omega)
    have s4 : Same H (upd H' l3 (.lst (((List.replicate (t + 1) 0 ++ q.drop (t + 1)).map V.int).set t (.int ((cf rest (t + (h.length - 1))).fdiv (lead h)))))) := fun b' o' e => by
      rw [upd_ne (ne_of_none e n3H)]
      exact z1 _ _ e
    have g1 : (upd H' l3 (.lst (((List.replicate (t + 1) 0 ++ q.drop (t + 1)).map V.int).set t (.int ((cf rest (t + (h.length - 1))).fdiv (lead h)))))) l1 = some (.lst (rest.map V.int)) := by rw [upd_ne n13]; exact z2
    have g3 : (upd H' l3 (.lst (((List.replicate (t + 1) 0 ++ q.drop (t + 1)).map V.int).set t (.int ((cf rest (t + (h.length - 1))).fdiv (lead h)))))) l3 = some (.lst ((List.replicate t 0 ++ q.drop t).map V.int)) := by
      rw [upd_same, ev1, ← List.map_set, set_found htq]
    generalize (upd H' l3 (.lst (((List.replicate (t + 1) 0 ++ q.drop (t + 1)).map V.int).set t (.int ((cf rest (t + (h.length - 1))).fdiv (lead h)))))) = H4 at s4 g1 g3 ⊢
    have gt : ((List.replicate t 0 ++ q.drop t).map V.int)[t]? = some (.int (cf q t)) := by
      rw [List.getElem?_map, List.getElem?_append_right (by simp), List.length_replicate, Nat.sub_self, List.getElem?_drop, Nat.add_zero, List.getElem?_eq_getElem htq, cf_lt htq]
      rfl
    refine ⟨.ref b, rfl, b, _, rfl, same_sqT s4 hH, ?_⟩
    refine for_enumT (fun j σ H' => (∃ y5 y6, σ = [some (.ref a), some (.ref b), some (.ref l1), some (.ref l3), some (.int t), y5, y6]) ∧ Same H H' ∧ H' l3 = some (.lst ((List.replicate t 0 ++ q.drop t).map V.int)) ∧ ∃ rest : List Int, H' l1 = some (.lst (rest.map V.int)) ∧ rest.length = o.length ∧
        (∀ x, ev rest x = ev h x * ev (q.take (t + 1)) x - cf q t * x ^ t * ev (h.take j) x))
      ⟨⟨_, _, rfl⟩, s4, g3, rest, g1, z3, fun x => by rw [z4]; simp⟩ (fun j σ H' z => same_sqT z.2.1 hH) (fun j u T σ H' hu z nT => ?_) fun σ H' z => ?_
    · obtain ⟨⟨y5, y6, rfl⟩, w1, w3, rs, w2, w4, w5⟩ := z
      have hj : j < h.length := by have := (List.getElem?_eq_some_iff.mp hu).1; rwa [List.length_map] at this
      obtain rfl : V.int (cf h j) = u := Option.some.inj ((map_at hj).symm.trans hu)
      have w2' : (upd H' T (.tup [.int (j : Nat), .int (cf h j)])) l1 = some (.lst (rs.map V.int)) := by rw [upd_ne (ne_of_none w2 nT)]; exact w2
      have w3' : (upd H' T (.tup [.int (j : Nat), .int (cf h j)])) l3 = some (.lst ((List.replicate t 0 ++ q.drop t).map V.int)) := by rw [upd_ne (ne_of_none w3 nT)]; exact w3
      have hij : t + j < rs.length := by omega
      refine ⟨T, _, rfl, .of upd_same, rfl, _, _, rfl, _, _, rfl, rfl, .ref l1, rfl, .int t, rfl, .int j, rfl, _, _, rfl, rfl, l1, _, t + j, _, rfl, congrArg V.int (Int.natCast_add t j).symm, .of w2', map_at hij,
        .ref l3, rfl, .int t, rfl, l3, _, (t : Int), _, rfl, rfl, .of w3', atI_nat gt, .int (cf h j), rfl, _, _, rfl, rfl, hm _ (by rw [cf_lt htq]; exact List.getElem_mem htq) _ (by rw [cf_lt hj]; exact List.getElem_mem hj), _, _, rfl, rfl, l1, _, _, t + j, rfl, rfl, w2', ?_, ⟨_, _, rfl⟩, ?_, ?_, rs.set (t + j) (cf rs (t + j) - cf q t * cf h j), ?_, ?_, fun x => ?_⟩
      · rw [List.length_map, ← Int.natCast_add]; exact ixN_nat hij
      · intro b' o' e
        rw [upd_ne (ne_of_none e n1H), upd_ne (ne_of_none (w1 _ _ e) nT)]
        exact w1 _ _ e
      · rw [upd_ne n13.symm]; exact w3'
      · rw [upd_same, List.map_set]
      · rw [List.length_set, w4]
      · rw [ev_set hij, w5, ev_take hj, Int.pow_add]; grind
    · obtain ⟨⟨y5, y6, rfl⟩, w1, w3, rs, w2, w4, w5⟩ := z
      have e2 : m - (i + 1) = t := by omega
      refine ⟨⟨_, _, _, rfl⟩, w1, rs, w2, w4, fun x => ?_, by rw [e2]; exact w3⟩
      rw [w5, e2, ev_take htq, List.length_map, List.take_length]; grind
  · obtain ⟨⟨y4, y5, y6, rfl⟩, z1, rest, z2, z3, z4, z5⟩ := z
    rw [Nat.sub_self, List.replicate_zero, List.nil_append, List.drop_zero] at z5
    refine ⟨.ref l3, rfl, l3, q, rfl, .of z5, fun H'' v s'' hv => ?_⟩
    rw [trim_id tq] at hv
    exact k _ _ (z1.trans s'') hv
end
end CN
end
section
set_option Elab.async false
set_option linter.all false
set_option maxRecDepth 100000
set_option maxHeartbeats 4000000
namespace PQ
theorem kap12 : kap 12 ≤ 2 ^ 130 := by decide
/-- a part of a polynomial of moderate size -/
theorem part_le {P t k : List Int} (h : ∀ x, ev P x = ev t x * ev k x) (hP : P ≠ []) (tP : Trim P) (ht : Trim t) (hl : P.length ≤ 13) (hb : n1 P ≤ 2 ^ 200) : t.length ≤ 13 ∧ n1 t ≤ 2 ^ 330 := by
  obtain ⟨h1, h2⟩ := divisor_le (d := 12) h (exists_ne hP tP) ht hl
  refine ⟨h1, Nat.le_trans h2 (Nat.le_trans (Nat.mul_le_mul hb kap12) ?_)⟩
  rw [← Nat.pow_add]; exact Nat.le_refl _
end PQ
namespace CN
open PySem PySem.Spec PyProof.Rows L2 PQ
/-- the constant x of the module is the function f -/
def Kc (K : PySem.W.Frag) (mg : Str → Option Value) (x : Str) (f : Fn) : Prop := ∃ a, mg x = some (.ref a) ∧ ∀ H, Fv K H (.ref a) f
/-- the constant x of the module is the int i -/
def Ki (mg : Str → Option Value) (x : Str) (i : Int) : Prop := ∃ t, mg x = some (.int i t)
/-- a constant that is a function, as a value -/
def tFn (K : PySem.W.Frag) (f : Fn) : TE := fun _ H Q => ∀ a, Fv K H (.ref a) f → Q (.ref a) H
theorem pe_kc {X : Cx} {x : Str} {f : Fn} {pos : Pos} (h : Kc X.K X.mg x f) (hg : Gl X x) (hd : (x == ("__debug__" : Str)) = false := by decide) : PE X (.Name x pos) (tFn X.K f) := by
  obtain ⟨a, h1, h2⟩ := h
  exact PE.imp (pe_glob hg h1 (v := .ref a) rfl hd) fun σ H Q z => z a (h2 H)
theorem pe_ki {X : Cx} {x : Str} {i : Int} {pos : Pos} (h : Ki X.mg x i) (hg : Gl X x) (hd : (x == ("__debug__" : Str)) = false := by decide) : PE X (.Name x pos) (tC (.int i)) := by
  obtain ⟨t, h1⟩ := h
  exact pe_glob hg h1 (v := .int i) ⟨t, rfl⟩ hd
section
variable {P : Program} {w : World} {K : PySem.W.Frag} {mg : Str → Option Value} {base : Heap}
abbrev sMade : Stmt := topS 33
abbrev nMade : List Str := ["top", "bottom", "shared", "factor", "a"]
theorem scMade : FnScope nMade ["top", "bottom"] (defScope sMade) := ⟨rfl, rfl, rfl, by decide +kernel, rfl, by decide +kernel, by decide +kernel⟩
def spMade (K : PySem.W.Frag) : Sp := fun vs H Q _ => ∃ (u v : V) (a b : List Int), vs = [u, v] ∧ Pl K H u a ∧ Pl K H v b ∧ Trim a ∧ Trim b ∧ b ≠ [] ∧ a.length ≤ 13 ∧ b.length ≤ 13 ∧ n1 a ≤ 2 ^ 200 ∧ n1 b ≤ 2 ^ 200 ∧
  ∀ H' z f, Same H H' → Fv K H' z f → Made a b f → Q z H'
theorem ok_made (D : Df K mg "made" sMade ["top", "bottom"]) (B : Bi mg) (hB : PyBase P base) (hZ : Kc K mg "ZERO" ([], [1])) (Gc : Ok P w K mg base 1 "content" ["one"] (spContent K)) (Gg : Ok P w K mg base 34 "common" ["one", "other"] (spCommon K))
    (Gq : Ok P w K mg base 33 "quotient" ["one", "other"] (spQuot K)) : Ok P w K mg base 35 "made" ["top", "bottom"] (spMade K) := by
  refine D.ok (k := 34) scMade (fun vs H Q E h => by obtain ⟨u, v, a, b, rfl, _⟩ := h; rfl) fun f cdv A outer s H vs Q E hr h => ?_
  obtain ⟨u, v, a, b, rfl, hA, hBv, ta, tb, hb, la, lb, na, nb, k⟩ := h
  have hr32 := hr.mono (show 32 ≤ 34 by decide)
  refine ⟨_, pss_cons (ps_if (pt_cmpR (op_eqD hr.units) (pv 0) (pe_tup pa_nil) (nomark _)) (pss_one (ps_ret (pe_kc hZ (by rfl)))) pss_nil)
    (pss_cons (ps_set (i := 2) scMade.nd rfl (.inl rfl) (pc2 Gg hr (by rfl) (pv 0) (pv 1)))
    (pss_cons (ps_par (i := 0) (j := 1) rfl scMade.nd rfl rfl (by decide) rfl rfl (pa_cons (pc2 Gq (hr.mono (by decide)) (by rfl) (pv 0) (pv 2)) (pa_cons (pc2 Gq (hr.mono (by decide)) (by rfl) (pv 1) (pv 2)) pa_nil)) (by rfl))
    (pss_cons (ps_set (i := 3) scMade.nd rfl (.inr rfl) (pgcd B.gcd (by rfl) (pc1 Gc (hr.mono (by decide)) (by rfl) (pv 0)) (pc1 Gc (hr.mono (by decide)) (by rfl) (pv 1))))
    (pss_cons (ps_if (pt_cmpR op_lt (pe_ix ix_tup (pv 1) (pe_un un_neg pe_int) (fun _ _ => rfl)) pe_int (nomark _)) (pss_one (ps_set (i := 3) scMade.nd rfl (.inr rfl) (pe_un un_neg (pv 3)))) pss_nil)
    (pss_one (ps_ret (pe_tup (pa_cons (pe_mapT (j := 0) B (by rfl) (pe_lc (own := [("a", 4)]) (g := gName 4) (tt := tYes) rfl scMade.nd (pi_tup (pv 0)) (blkOk_by (own := [("a", 4)]) (N := nMade) (sc := defScope sMade) (by decide +kernel))
        (fun _ _ _ _ _ => pg_name (i := 4) scMade.nd rfl (Or.inl rfl)) (fun _ _ _ _ _ => pts_nil) (fun _ _ _ _ _ => pe_op (op_fdivA hB rfl (room100 hr32)) (pv 4) (pv 3))))
      (pa_cons (pe_mapT (j := 1) B (by rfl) (pe_lc (own := [("a", 4)]) (g := gName 4) (tt := tYes) rfl scMade.nd (pi_tup (pv 1)) (blkOk_by (own := [("a", 4)]) (N := nMade) (sc := defScope sMade) (by decide +kernel))
        (fun _ _ _ _ _ => pg_name (i := 4) scMade.nd rfl (Or.inl rfl)) (fun _ _ _ _ _ => pts_nil) (fun _ _ _ _ _ => pe_op (op_fdivA hB rfl (room100 hr32)) (pv 4) (pv 3)))) pa_nil))))))))), ?_⟩
  refine ⟨u, rfl, by decide, fun t1 n1' => eq_pl (p := a) (q := []) (hA.same (same_upd n1')) plNil ⟨_, rfl, ite2 (fun h1 => ?_) (fun h1 => ?_)⟩⟩
  · have h1 : a = [] := of_decide_eq_true h1
    refine fun z hz => k _ _ _ (same_upd n1') hz ⟨can_zero, fun x => by rw [h1]; simp⟩
  have ha : a ≠ [] := fun e => h1 (decide_eq_true e)
  have s1 := same_upd (o := .tup []) n1'
  generalize (upd H t1 (.tup [])) = H1 at s1 ⊢
  refine ⟨u, rfl, v, rfl, u, v, a, b, rfl, hA.same s1, hBv.same s1, ta, tb, ha, la, lb, na, nb, fun H2 z2 g s2 hz2 GG => ?_⟩
  have s12 := s1.trans s2
  obtain ⟨w1, tw1, nw1, ew1, fw1⟩ := GG.fst ha ta
  obtain ⟨w2, tw2, nw2, ew2, fw2⟩ := GG.snd hb tb
  have pg := part_le fw1 ha ta GG.tg la na
  have p1 := part_le (t := w1) (k := g) (fun x => by rw [fw1]; exact Int.mul_comm _ _) ha ta tw1 la na
  have p2 := part_le (t := w2) (k := g) (fun x => by rw [fw2]; exact Int.mul_comm _ _) hb tb tw2 lb nb
  refine ⟨u, rfl, z2, rfl, u, z2, a, g, w1, rfl, hA.same s12, hz2, GG.ne, GG.tg, tw1, nw1, ew1, by omega, mk2_pow p1.2 pg.2 (by decide), fun H3 z3 s3 hz3 => ?_⟩
  refine ⟨v, rfl, z2, rfl, v, z2, b, g, w2, rfl, (hBv.same s12).same s3, hz2.same s3, GG.ne, GG.tg, tw2, nw2, ew2, by omega, mk2_pow p2.2 pg.2 (by decide), fun H4 z4 s4 hz4 => ?_⟩
  have s14 := (s12.trans s3).trans s4
  have hz3' := hz3.same s4
  obtain ⟨c3, rfl, h3⟩ := hz3'
  obtain ⟨c4, rfl, h4⟩ := hz4
  refine ⟨_, _, rfl, .ref c3, rfl, .ref c3, w1, rfl, ⟨c3, rfl, h3⟩, .ref c4, rfl, .ref c4, w2, rfl, ⟨c4, rfl, h4⟩, _, _, rfl, ?_⟩
  rw [Int.natAbs_natCast, Int.natAbs_natCast]
  have fin : ∀ z : Int, z = (if lead w2 < 0 then -((Nat.gcd (ct w1) (ct w2) : Nat) : Int) else ((Nat.gcd (ct w1) (ct w2) : Nat) : Int)) →
      tRet (tTup (tCons (tMapT K 0 4 [4] (tOp (rI (fun _ j => j ≠ 0) fun i j => .int (i.fdiv j)) (tVar 4) (tVar 3))) (tCons (tMapT K 1 4 [4] (tOp (rI (fun _ j => j ≠ 0) fun i j => .int (i.fdiv j)) (tVar 4) (tVar 3))) tNil)))
        { nx := fun _ H' => Q .non H', rt := Q } [some (.ref c3), some (.ref c4), some z2, some (.int z), none] H4 := fun z hz => by
    obtain ⟨m1, m2, m3, m4, m5⟩ := made_can ha hb ta tb GG tw1 tw2 fw1 fw2 hz
    have dz : ∀ l : List Int, psc z (dv l z) = l → l.map (fun c => c.fdiv z) = dv l z := fun l hl => List.map_congr_left fun c hc => fdiv_dvd m1 (by
      rw [← hl] at hc
      obtain ⟨d, _, rfl⟩ := List.mem_map.mp hc
      exact ⟨d, rfl⟩)
    refine ⟨c3, w1, fun c => c.fdiv z, rfl, h3, by omega, fun _ => rfl, fun c hc H' R _ q => ⟨_, rfl, _, rfl, c, z, rfl, rfl, m1, q⟩, fun H5 v5 s5 hv5 => ?_⟩
    refine ⟨c4, w2, fun c => c.fdiv z, rfl, same_sqT s5 h4, by omega, fun _ => rfl, fun c hc H' R _ q => ⟨_, rfl, _, rfl, c, z, rfl, rfl, m1, q⟩, fun H6 v6 s6 hv6 => ⟨(by decide : 2 ≤ sizeLine), fun l nl => ?_⟩⟩
    rw [dz w1 m2] at hv5
    rw [dz w2 m3] at hv6
    have s7 := same_upd (o := .tup [v5, v6]) nl
    exact k _ _ (dv w1 z, dv w2 z) (((s14.trans s5).trans s6).trans s7) ⟨l, v5, v6, rfl, .of upd_same, (hv5.same s6).same s7, hv6.same s7⟩ ⟨m4, m5⟩
  refine ⟨.ref c4, rfl, 1, rfl, c4, _, -1, _, rfl, rfl, h4, at_lead nw2, _, 0, rfl, rfl, _, rfl, ite2 (fun h2 => ?_) (fun h2 => ?_)⟩
  · have h2 := of_decide_eq_true h2
    exact ⟨_, rfl, _, rfl, fin _ (by rw [if_pos h2])⟩
  · have h2 : ¬ lead w2 < 0 := fun z => h2 (decide_eq_true z)
    exact fin _ (by rw [if_neg h2])
end
end CN
end
section
set_option Elab.async false
set_option linter.all false
set_option maxRecDepth 100000
set_option maxHeartbeats 4000000
namespace CN
open PySem PySem.Spec PyProof.Rows L2 PQ
section
variable {X : Cx}
/-- [e for x in t], t any tuple, e pure -/
def tMapV (K : PySem.W.Frag) (j i : Nat) (vs : List Nat) (te : TE) : TE := fun σ H Q => ∃ (a : Addr) (xs : List V) (gf : V → V), σ[j]? = some (some (.ref a)) ∧ SqT K H a xs ∧ xs.length ≤ 1000 ∧
  (∀ x, wipe ((wipe σ vs).set i x) vs = wipe σ vs) ∧ (∀ c ∈ xs, ∀ H' R, Same H H' → R (gf c) H' → te ((wipe σ vs).set i (some c)) H' R) ∧
  ∀ H' D, Same H H' → H' D = some (.lst (xs.map gf)) → Q (.ref D) H'
theorem pe_mapV {j i : Nat} {vs : List Nat} {te : TE} {e : Expr} (h : PE X e (tLc (iTup X.K (tVar j)) (gName i) tYes te vs)) : PE X e (tMapV X.K j i vs te) := by
  refine PE.imp h fun σ H Q z => ?_
  obtain ⟨a, xs, gf, h1, hA, lp, hw, hte, k⟩ := z
  refine ⟨.ref a, h1, a, rfl, ⟨_, hA⟩, fun D nD => ?_⟩
  refine lc_tup (xs := xs) (fun n H' => Same H H' ∧ H' D = some (.lst ((xs.map gf).take n))) ⟨same_upd nD, upd_same⟩ (fun n H' _ z => same_sqT z.1 hA) (fun n u H' hu z => ?_) fun H' z => ?_
  · obtain ⟨z1, z2⟩ := z
    have hn : n < xs.length := (List.getElem?_eq_some_iff.mp hu).1
    refine ⟨hw _, (hte u (List.mem_of_getElem? hu) H' _ z1 ⟨_, z2, ?_, fun b o e => ?_, ?_⟩ : te _ _ _)⟩
    · rw [List.length_take, List.length_map]
      exact Nat.lt_of_le_of_lt (Nat.min_le_right _ _) (small1000 lp)
    · rw [upd_ne (ne_of_none e nD)]
      exact z1 _ _ e
    · rw [upd_same, List.take_add_one, List.getElem?_map, hu]
      rfl
  · obtain ⟨z1, z2⟩ := z
    rw [List.take_of_length_le (by rw [List.length_map]; exact Nat.le_refl _)] at z2
    exact k _ _ z1 z2
end
section
variable {P : Program} {w : World} {K : PySem.W.Frag} {mg : Str → Option Value} {base : Heap}
/-! ### is_poly, need_poly -/
abbrev sIsPoly : Stmt := topS 17
abbrev nIsPoly : List Str := ["value", "one"]
theorem scIsPoly : FnScope nIsPoly ["value"] (defScope sIsPoly) := ⟨rfl, rfl, rfl, by decide +kernel, rfl, by decide +kernel, by decide +kernel⟩
/-- a polynomial that the package takes -/
structure Pok (p : List Int) : Prop where
  t : Trim p
  l : p.length ≤ 13
  b : n1 p ≤ 2 ^ 190
theorem map_true (p : List Int) : (p.map V.int).map (fun _ => V.bl true) = (List.replicate p.length true).map V.bl := by
  induction p with
  | nil => rfl
  | cons a p ih => rw [List.map_cons, List.map_cons, ih, List.length_cons, List.replicate_succ]; rfl
theorem big190 : (2 : Nat) ^ 190 ≤ 10 ^ 60 := by decide
theorem Pok.cf {p : List Int} (h : Pok p) {c : Int} (hc : c ∈ p) : -(10 ^ 60 : Int) ≤ c ∧ c ≤ (10 ^ 60 : Int) := by
  have h1 := Nat.le_trans (natAbs_le_n1 hc) (Nat.le_trans h.b big190)
  have e : ((10 ^ 60 : Nat) : Int) = (10 ^ 60 : Int) := by decide
  omega
def spIsPoly (K : PySem.W.Frag) : Sp := fun vs H Q _ => ∃ (u : V) (p : List Int), vs = [u] ∧ Pl K H u p ∧ Pok p ∧ ∀ H', Same H H' → Q (.bl true) H'
theorem ok_is_poly (D : Df K mg "is_poly" sIsPoly ["value"]) (B : Bi mg) (hD : Ki mg "MOST_DEGREE" 12) (hS : Ki mg "MOST_SIZE" (10 ^ 60)) (G : Ok P w K mg base 2 "is_in" ["value", "least", "most"] spIsIn) :
    Ok P w K mg base 3 "is_poly" ["value"] (spIsPoly K) := by
  refine D.ok (k := 2) scIsPoly (fun vs H Q E h => by obtain ⟨u, p, rfl, _⟩ := h; rfl) fun f cdv A outer s H vs Q E hr h => ?_
  obtain ⟨u, p, rfl, ⟨a, rfl, hA⟩, hp, k⟩ := h
  refine ⟨_, pss_cons (ps_if (PW.pt (pw_or (pt_not (pt_val (pisi B.isinstance B.tuple bt_tuple (by rfl) (by rfl) (pv 0)))) (pw_or1 (pt_cmpR op_gt (pb1 call_len_seq B.len bt_len (by rfl) (pv 0)) (pe_op op_add (pe_ki hD (by rfl)) pe_int) (nomark _)))))
      (pss_one (ps_ret pe_bl)) pss_nil)
    (pss_cons (ps_if (pt_not (pt_val (pb1 (cr_all rfl) B.all bt_all (by rfl) (pe_mapV (j := 0) (pe_lc (own := [("one", 1)]) (g := gName 1) (tt := tYes) rfl scIsPoly.nd (pi_tup (pv 0)) (blkOk_by (own := [("one", 1)]) (N := nIsPoly) (sc := defScope sIsPoly) (by decide +kernel))
        (fun _ _ _ _ _ => pg_name (i := 1) scIsPoly.nd rfl (Or.inl rfl)) (fun _ _ _ _ _ => pts_nil) (fun _ _ _ _ _ => pc3 G hr (by rfl) (pv 1) (pe_un un_neg (pe_ki hS (by rfl))) (pe_ki hS (by rfl)))))))) (pss_one (ps_ret pe_bl)) pss_nil)
    (pss_one (ps_ret (pe_or (pe_cmpR (op_eqD hr.units) (pv 0) (pe_tup pa_nil) (nomark _)) (pe_one (pe_cmpR op_ne (pe_ix ix_tup (pv 0) (pe_un un_neg pe_int) (fun _ _ => rfl)) pe_int (nomark _))))))), ?_⟩
  refine ⟨.ref a, rfl, isi_tup hA ⟨true, rfl, iteF ⟨.ref a, rfl, a, _, rfl, .inr hA, 12, 1, rfl, rfl, _, _, rfl, rfl, _, rfl, ?_⟩⟩⟩
  rw [decide_eq_false (by rw [List.length_map]; have := hp.l; omega)]
  refine iteF ⟨a, _, fun _ => .bl true, rfl, hA, by rw [List.length_map]; have := hp.l; omega, fun _ => rfl, fun c hc H' R s' q => ?_, fun H' Dl s' hD' => ?_⟩
  · obtain ⟨z, hz, rfl⟩ := List.mem_map.mp hc
    obtain ⟨q1, q2⟩ := hp.cf hz
    refine ⟨.int z, rfl, _, rfl, z, _, _, rfl, ?_⟩
    rw [decide_eq_true q1, decide_eq_true q2]
    exact q
  · refine ⟨Dl, List.replicate p.length true, rfl, .of (by rw [hD', map_true]), ?_⟩
    have hall : (List.replicate p.length true).all id = true := by simp
    rw [hall]
    refine ⟨true, rfl, iteF ⟨.ref a, rfl, by decide, fun t nt => eq_pl (p := p) (q := []) ⟨a, rfl, same_sqT (s'.trans (same_upd nt)) hA⟩ plNil ⟨_, rfl, ite2 (fun h1 => ?_) (fun h1 => ?_)⟩⟩⟩
    · exact k _ (s'.trans (same_upd nt))
    · have hne : p ≠ [] := fun e => h1 (decide_eq_true e)
      refine ⟨.ref a, rfl, 1, rfl, a, _, -1, _, rfl, rfl, same_sqT (s'.trans (same_upd nt)) hA, at_lead hne, rfl, ?_⟩
      rw [decide_eq_false (fun e => hp.t hne (V.int.inj e))]
      exact k _ (s'.trans (same_upd nt))
abbrev sNeedPoly : Stmt := topS 18
theorem scNeedPoly : FnScope ["value"] ["value"] (defScope sNeedPoly) := ⟨rfl, rfl, rfl, by decide +kernel, rfl, by decide +kernel, by decide +kernel⟩
def spNeedPoly (K : PySem.W.Frag) : Sp := fun vs H Q _ => ∃ (u : V) (p : List Int), vs = [u] ∧ Pl K H u p ∧ Pok p ∧ ∀ H', Same H H' → Q .non H'
theorem ok_need_poly (D : Df K mg "need_poly" sNeedPoly ["value"]) (G : Ok P w K mg base 3 "is_poly" ["value"] (spIsPoly K)) : Ok P w K mg base 4 "need_poly" ["value"] (spNeedPoly K) := by
  refine D.ok (k := 3) scNeedPoly (fun vs H Q E h => by obtain ⟨u, p, rfl, _⟩ := h; rfl) fun f cdv A outer s H vs Q E hr h => ?_
  obtain ⟨u, p, rfl, hA, hp, k⟩ := h
  refine ⟨_, pss_one (ps_if (pt_not (pt_val (pc1 G hr (by rfl) (pv 0)))) (pss_one ps_never) pss_nil), ?_⟩
  exact ⟨u, rfl, u, p, rfl, hA, hp, fun H' s' => ⟨true, rfl, iteF (k _ s')⟩⟩
/-! ### small, is_function, need_function, function -/
abbrev sSmall : Stmt := topS 34
theorem scSmall : FnScope ["one"] ["one"] (defScope sSmall) := ⟨rfl, rfl, rfl, by decide +kernel, rfl, by decide +kernel, by decide +kernel⟩
def spSmall (K : PySem.W.Frag) : Sp := fun vs H Q _ => ∃ (u : V) (f : Fn), vs = [u] ∧ Fv K H u f ∧ f.1.length ≤ 13 ∧ f.2.length ≤ 13 ∧ Q u H
theorem ok_small (D : Df K mg "small" sSmall ["one"]) (B : Bi mg) (hD : Ki mg "MOST_DEGREE" 12) : Ok P w K mg base 1 "small" ["one"] (spSmall K) := by
  refine D.ok (k := 0) scSmall (fun vs H Q E h => by obtain ⟨u, f, rfl, _⟩ := h; rfl) fun f cdv A outer s H vs Q E hr h => ?_
  obtain ⟨u, f, rfl, ⟨a, x, y, rfl, hA, ⟨b, rfl, h1⟩, ⟨c, rfl, h2⟩⟩, l1, l2, k⟩ := h
  refine ⟨_, pss_cons (ps_if (pt_cmpR op_gt (pb2 (call_max2 rfl) B.max bt_max (by rfl) (pb1 call_len_seq B.len bt_len (by rfl) (pe_ix ix_tup (pv 0) pe_int (fun _ _ => rfl))) (pb1 call_len_seq B.len bt_len (by rfl) (pe_ix ix_tup (pv 0) pe_int (fun _ _ => rfl)))) (pe_op op_add (pe_ki hD (by rfl)) pe_int) (nomark _)) (pss_one ps_never) pss_nil)
    (pss_one (ps_ret (pv 0))), ?_⟩
  refine ⟨.ref a, rfl, a, _, 0, .ref b, rfl, rfl, hA, atI_nat (j := 0) rfl, b, _, rfl, .inr h1, .ref a, rfl, a, _, 1, .ref c, rfl, rfl, hA, atI_nat (j := 1) rfl, c, _, rfl, .inr h2, _, _, rfl, 12, 1, rfl, rfl, _, _, rfl, rfl, _, rfl, ?_⟩
  rw [decide_eq_false (by rw [List.length_map, List.length_map]; split <;> omega)]
  exact iteF ⟨_, rfl, k⟩
abbrev sIsFn : Stmt := topS 35
theorem scIsFn : FnScope ["value"] ["value"] (defScope sIsFn) := ⟨rfl, rfl, rfl, by decide +kernel, rfl, by decide +kernel, by decide +kernel⟩
/-- a function that the package takes -/
structure Fok (f : Fn) : Prop where
  c : Can f
  l1 : f.1.length ≤ 13
  l2 : f.2.length ≤ 13
  b1 : n1 f.1 ≤ 2 ^ 190
  b2 : n1 f.2 ≤ 2 ^ 190
theorem Fok.p1 {f : Fn} (h : Fok f) : Pok f.1 := ⟨h.c.tt, h.l1, h.b1⟩
theorem Fok.p2 {f : Fn} (h : Fok f) : Pok f.2 := ⟨h.c.tb, h.l2, h.b2⟩
theorem pow190 {n : Nat} (h : n ≤ 2 ^ 190) : n ≤ 2 ^ 200 := Nat.le_trans h (by decide)
def spIsFn (K : PySem.W.Frag) : Sp := fun vs H Q _ => ∃ (u : V) (f : Fn), vs = [u] ∧ Fv K H u f ∧ Fok f ∧ ∀ H', Same H H' → Q (.bl true) H'
theorem ok_is_fn (D : Df K mg "is_function" sIsFn ["value"]) (B : Bi mg) (Gp : Ok P w K mg base 3 "is_poly" ["value"] (spIsPoly K)) (Gm : Ok P w K mg base 35 "made" ["top", "bottom"] (spMade K)) : Ok P w K mg base 36 "is_function" ["value"] (spIsFn K) := by
  refine D.ok (k := 35) scIsFn (fun vs H Q E h => by obtain ⟨u, f, rfl, _⟩ := h; rfl) fun f cdv A outer s H vs Q E hr h => ?_
  obtain ⟨u, f, rfl, ⟨a, x, y, rfl, hA, h1, h2⟩, hf, k⟩ := h
  refine ⟨_, pss_cons (ps_if (PW.pt (pw_or (pt_not (pt_val (pisi B.isinstance B.tuple bt_tuple (by rfl) (by rfl) (pv 0)))) (pw_or (pt_cmpR op_ne (pb1 call_len_seq B.len bt_len (by rfl) (pv 0)) pe_int (nomark _))
      (pw_or (pt_not (pt_val (pc1 Gp (hr.mono (by decide)) (by rfl) (pe_ix ix_tup (pv 0) pe_int (fun _ _ => rfl))))) (pw_or1 (pt_not (pt_val (pc1 Gp (hr.mono (by decide)) (by rfl) (pe_ix ix_tup (pv 0) pe_int (fun _ _ => rfl))))))))))
      (pss_one (ps_ret pe_bl)) pss_nil)
    (pss_one (ps_ret (pe_and (pe_cmpR (op_neD hr.units) (pe_ix ix_tup (pv 0) pe_int (fun _ _ => rfl)) (pe_tup pa_nil) (nomark _))
      (pe_one (pe_cmpR (op_eqD hr.units) (pc2 Gm hr (by rfl) (pe_ix ix_tup (pv 0) pe_int (fun _ _ => rfl)) (pe_ix ix_tup (pv 0) pe_int (fun _ _ => rfl))) (pv 0) (nomark _)))))), ?_⟩
  refine ⟨.ref a, rfl, isi_tup hA ⟨true, rfl, iteF ⟨.ref a, rfl, a, _, rfl, .inr hA, rfl, _, rfl, iteF ⟨.ref a, rfl, a, _, 0, x, rfl, rfl, hA, atI_nat (j := 0) rfl, x, f.1, rfl, h1, hf.p1, fun H1 s1 => ⟨true, rfl, iteF ?_⟩⟩⟩⟩⟩
  refine ⟨.ref a, rfl, a, _, 1, y, rfl, rfl, same_sqT s1 hA, atI_nat (j := 1) rfl, y, f.2, rfl, h2.same s1, hf.p2, fun H2 s2 => ⟨true, rfl, iteF ?_⟩⟩
  have s12 := s1.trans s2
  refine ⟨.ref a, rfl, a, _, 1, y, rfl, rfl, same_sqT s12 hA, atI_nat (j := 1) rfl, by decide, fun t nt => ⟨_, _, ((h2.same s12).same (same_upd nt)).dp, (plNil : Pl K _ _ []).dp, shaped_pl f.2, shaped_pl [], ?_⟩⟩
  rw [eqv_pl, decide_eq_false hf.c.ne]
  have s3 := s12.trans (same_upd (o := .tup []) nt)
  refine ⟨true, rfl, iteT ⟨.ref a, rfl, a, _, 0, x, rfl, rfl, same_sqT s3 hA, atI_nat (j := 0) rfl, .ref a, rfl, a, _, 1, y, rfl, rfl, same_sqT s3 hA, atI_nat (j := 1) rfl, x, y, f.1, f.2, rfl, h1.same s3, h2.same s3, hf.c.tt, hf.c.tb, hf.c.ne, hf.l1, hf.l2, pow190 hf.b1, pow190 hf.b2, fun H4 z g s4 hz M => ?_⟩⟩
  have e : g = f := M.can.uniq hf.c M.eq
  have s5 := s3.trans s4
  refine ⟨.ref a, rfl, eq_fn (f := g) (g := f) hz ⟨a, x, y, rfl, same_sqT s5 hA, h1.same s5, h2.same s5⟩ ?_⟩
  rw [decide_eq_true e]
  exact k _ s5
abbrev sNeedFn : Stmt := topS 36
theorem scNeedFn : FnScope ["value"] ["value"] (defScope sNeedFn) := ⟨rfl, rfl, rfl, by decide +kernel, rfl, by decide +kernel, by decide +kernel⟩
def spNeedFn (K : PySem.W.Frag) : Sp := fun vs H Q _ => ∃ (u : V) (f : Fn), vs = [u] ∧ Fv K H u f ∧ Fok f ∧ ∀ H', Same H H' → Q .non H'
theorem ok_need_fn (D : Df K mg "need_function" sNeedFn ["value"]) (G : Ok P w K mg base 36 "is_function" ["value"] (spIsFn K)) : Ok P w K mg base 37 "need_function" ["value"] (spNeedFn K) := by
  refine D.ok (k := 36) scNeedFn (fun vs H Q E h => by obtain ⟨u, f, rfl, _⟩ := h; rfl) fun f cdv A outer s H vs Q E hr h => ?_
  obtain ⟨u, p, rfl, hA, hp, k⟩ := h
  refine ⟨_, pss_one (ps_if (pt_not (pt_val (pc1 G hr (by rfl) (pv 0)))) (pss_one ps_never) pss_nil), ?_⟩
  exact ⟨u, rfl, u, p, rfl, hA, hp, fun H' s' => ⟨true, rfl, iteF (k _ s')⟩⟩
abbrev sFunction : Stmt := topS 37
theorem scFunction : FnScope ["top", "bottom"] ["top", "bottom"] (defScope sFunction) := ⟨rfl, rfl, rfl, by decide +kernel, rfl, by decide +kernel, by decide +kernel⟩
def spFunction (K : PySem.W.Frag) : Sp := fun vs H Q _ => ∃ (u v : V) (a b : List Int), vs = [u, v] ∧ Pl K H u a ∧ Pl K H v b ∧ Pok a ∧ Pok b ∧ b ≠ [] ∧ ∀ H' z f, Same H H' → Fv K H' z f → Made a b f → Q z H'
theorem ok_function (D : Df K mg "function" sFunction ["top", "bottom"]) (Gn : Ok P w K mg base 4 "need_poly" ["value"] (spNeedPoly K)) (Gm : Ok P w K mg base 35 "made" ["top", "bottom"] (spMade K)) : Ok P w K mg base 36 "function" ["top", "bottom"] (spFunction K) := by
  refine D.ok (k := 35) scFunction (fun vs H Q E h => by obtain ⟨u, v, a, b, rfl, _⟩ := h; rfl) fun f cdv A outer s H vs Q E hr h => ?_
  obtain ⟨u, v, a, b, rfl, hA, hB, pa, pb, hb, k⟩ := h
  refine ⟨_, pss_cons (ps_expr (pc1 Gn (hr.mono (by decide)) (by rfl) (pv 0))) (pss_cons (ps_expr (pc1 Gn (hr.mono (by decide)) (by rfl) (pv 1)))
    (pss_cons (ps_if (pt_cmpR (op_eqD hr.units) (pv 1) (pe_tup pa_nil) (nomark _)) (pss_one ps_never) pss_nil) (pss_one (ps_ret (pc2 Gm hr (by rfl) (pv 0) (pv 1)))))), ?_⟩
  refine ⟨u, rfl, u, a, rfl, hA, pa, fun H1 s1 => ⟨v, rfl, v, b, rfl, hB.same s1, pb, fun H2 s2 => ?_⟩⟩
  have s12 := s1.trans s2
  refine ⟨v, rfl, by decide, fun t nt => eq_pl (p := b) (q := []) ((hB.same s12).same (same_upd nt)) plNil ⟨_, rfl, ?_⟩⟩
  rw [decide_eq_false hb]
  have s3 := s12.trans (same_upd (o := .tup []) nt)
  exact iteF ⟨u, rfl, v, rfl, u, v, a, b, rfl, hA.same s3, hB.same s3, pa.t, pb.t, hb, pa.l, pb.l, pow190 pa.b, pow190 pb.b, fun H4 z g s4 hz M => k _ _ _ (s3.trans s4) hz M⟩
end
end CN
end
section
set_option Elab.async false
set_option linter.all false
set_option maxRecDepth 100000
set_option maxHeartbeats 4000000
namespace PQ
theorem n1_neg (p : List Int) : n1 (psc (-1) p) = n1 p := by rw [n1_psc]; simp
theorem ct_neg (p : List Int) : ct (psc (-1) p) = ct p := by rw [ct_psc]; simp
/-- the form of the reciprocal -/
theorem back_sz {f g : Fn} {d b : Nat} (hf : Can f) (h1 : f.1 ≠ []) (M : Made f.2 f.1 g) (z : Sz f d b) : Sz g d b := by
  obtain ⟨u, v, n, hn, hb⟩ := hf.bez
  by_cases hl : lead f.1 < 0
  · have C : Can (psc (-1) f.2, psc (-1) f.1) := by
      refine ⟨hf.tb.psc (by decide), hf.tt.psc (by decide), fun e => h1 (by simpa [psc] using e), ?_, ?_, psc (-1) v, psc (-1) u, n, hn, fun x => ?_⟩
      · show 0 < lead (psc (-1) f.1); rw [psc_lead]; omega
      · show Nat.gcd (ct (psc (-1) f.2)) (ct (psc (-1) f.1)) = 1; rw [ct_neg, ct_neg, Nat.gcd_comm]; exact hf.one
      · show ev (psc (-1) v) x * ev (psc (-1) f.2) x + ev (psc (-1) u) x * ev (psc (-1) f.1) x = n
        rw [ev_psc, ev_psc, ev_psc, ev_psc]; have := hb x; grind
    have e : g = (psc (-1) f.2, psc (-1) f.1) := M.uniq ⟨C, fun x => by show ev (psc (-1) f.2) x * ev f.1 x = ev f.2 x * ev (psc (-1) f.1) x; rw [ev_psc, ev_psc]; grind⟩ (exists_ne h1 hf.tt)
    subst e
    exact ⟨by show (psc (-1) f.2).length ≤ _; rw [length_psc]; exact z.l2, by show (psc (-1) f.1).length ≤ _; rw [length_psc]; exact z.l1, by show n1 (psc (-1) f.2) ≤ _; rw [n1_neg]; exact z.b2, by show n1 (psc (-1) f.1) ≤ _; rw [n1_neg]; exact z.b1⟩
  · have C : Can (f.2, f.1) := ⟨hf.tb, hf.tt, h1, by have := hf.tt h1; show 0 < lead f.1; omega, by show Nat.gcd (ct f.2) (ct f.1) = 1; rw [Nat.gcd_comm]; exact hf.one, v, u, n, hn, fun x => by show ev v x * ev f.2 x + ev u x * ev f.1 x = n; rw [Int.add_comm]; exact hb x⟩
    have e : g = (f.2, f.1) := M.uniq ⟨C, fun x => by show ev f.2 x * ev f.1 x = ev f.2 x * ev f.1 x; rfl⟩ (exists_ne h1 hf.tt)
    subst e
    exact ⟨z.l2, z.l1, z.b2, z.b1⟩
theorem Made.untrim {A B : List Int} {h : Fn} (M : Made (trim A) (trim B) h) : Made A B h := ⟨M.can, fun x => by have := M.eq x; rw [ev_trim, ev_trim] at this; exact this⟩
theorem two_mul_pow {a b c : Nat} {m n : Nat} (h1 : m ≤ 2 ^ a) (h2 : n ≤ 2 ^ b) (h : a + b ≤ c) : m * n ≤ 2 ^ c := Nat.le_trans (Nat.mul_le_mul h1 h2) (by rw [← Nat.pow_add]; exact Nat.pow_le_pow_right (by decide) h)
/-- the raw parts of sums and products -/
theorem raw_mul {p q : List Int} {d e b c : Nat} (l1 : p.length ≤ d + 1) (l2 : q.length ≤ e + 1) (b1 : n1 p ≤ 2 ^ b) (b2 : n1 q ≤ 2 ^ c) (hd : d + e ≤ 12) (hb : b + c ≤ 199) :
    (trim (pmul p q)).length ≤ 13 ∧ n1 (trim (pmul p q)) ≤ 2 ^ (b + c) := by
  refine ⟨Nat.le_trans (length_trim _) (Nat.le_trans (length_pmul_le l1 l2) (by omega)), ?_⟩
  rw [n1_trim]
  exact Nat.le_trans (n1_pmul p q) (two_mul_pow b1 b2 (Nat.le_refl _))
theorem pow_up {n a b : Nat} (h : n ≤ 2 ^ a) (hab : a ≤ b) : n ≤ 2 ^ b := Nat.le_trans h (Nat.pow_le_pow_right (by decide) hab)
theorem raw_add {p q : List Int} {m b : Nat} (l1 : p.length ≤ m) (l2 : q.length ≤ m) (b1 : n1 p ≤ 2 ^ b) (b2 : n1 q ≤ 2 ^ b) : (trim (padd p q)).length ≤ m ∧ n1 (trim (padd p q)) ≤ 2 ^ (b + 1) := by
  refine ⟨Nat.le_trans (length_trim _) (by rw [length_padd]; omega), ?_⟩
  rw [n1_trim, Nat.pow_succ]
  have := n1_padd p q
  omega
theorem trim_pmul_ne {p q : List Int} (hp : p ≠ []) (hq : q ≠ []) (tp : Trim p) (tq : Trim q) : trim (pmul p q) ≠ [] := by
  rw [trim_id (tp.pmul tq hp hq)]
  exact pmul_ne hp hq
end PQ
namespace CN
open PySem PySem.Spec PyProof.Rows L2 PQ
section
variable {P : Program} {w : World} {K : PySem.W.Frag} {mg : Str → Option Value} {base : Heap}
/-! ### products, reciprocals, quotients -/
abbrev sTimesOf : Stmt := topS 41
theorem scTimesOf : FnScope ["one", "other"] ["one", "other"] (defScope sTimesOf) := ⟨rfl, rfl, rfl, by decide +kernel, rfl, by decide +kernel, by decide +kernel⟩
/-- two functions of some sizes, and what an operation makes of them -/
def spOp (K : PySem.W.Frag) (C : Fn → Prop) (g : Rat → Rat → Rat) : Sp := fun vs H Q _ => ∃ (u v : V) (f h : Fn) (r s : Int → Rat) (d e b c : Nat), vs = [u, v] ∧ Fv K H u f ∧ Fv K H v h ∧ Is f r ∧ Is h s ∧ Sz f d b ∧ Sz h e c ∧ d + e ≤ 12 ∧ b + c ≤ 199 ∧ C h ∧
  ∀ H' z k, Same H H' → Fv K H' z k → Is k (fun x => g (r x) (s x)) → Q z H'
abbrev cT : Fn → Prop := fun _ => True
abbrev cN : Fn → Prop := fun h => h ≠ ([], [1])
theorem spOp_len {C : Fn → Prop} {g : Rat → Rat → Rat} (vs : List V) (H : Hp) (Q : VK) (E : XK) (h : spOp K C g vs H Q E) : vs.length = 2 := by obtain ⟨u, v, f, h, r, s, d, e, b, c, rfl, _⟩ := h; rfl
theorem ok_times_of (D : Df K mg "times_of" sTimesOf ["one", "other"]) (Gt : Ok P w K mg base 2 "poly_times" ["one", "other"] (spTimes K)) (Gm : Ok P w K mg base 35 "made" ["top", "bottom"] (spMade K)) : Ok P w K mg base 36 "times_of" ["one", "other"] (spOp K cT (· * ·)) := by
  refine D.ok (k := 35) scTimesOf spOp_len fun f cdv A outer s H vs Q E hr h => ?_
  obtain ⟨u, v, f, h, r, s', d, e, b, c, rfl, ⟨a1, x1, y1, rfl, hA, hx1, hy1⟩, ⟨a2, x2, y2, rfl, hB, hx2, hy2⟩, If, Ih, zf, zh, hd, hb, _, k⟩ := h
  refine ⟨_, pss_one (ps_ret (pc2 Gm hr (by rfl) (pc2 Gt (hr.mono (by decide)) (by rfl) (pe_ix ix_tup (pv 0) pe_int (fun _ _ => rfl)) (pe_ix ix_tup (pv 1) pe_int (fun _ _ => rfl)))
    (pc2 Gt (hr.mono (by decide)) (by rfl) (pe_ix ix_tup (pv 0) pe_int (fun _ _ => rfl)) (pe_ix ix_tup (pv 1) pe_int (fun _ _ => rfl))))), ?_⟩
  have l13 : ∀ {n m : Nat}, n ≤ m + 1 → m ≤ 12 → n ≤ 200 := fun h1 h2 => by omega
  have q1 := raw_mul zf.l1 zh.l1 zf.b1 zh.b1 hd hb
  have q2 := raw_mul zf.l2 zh.l2 zf.b2 zh.b2 hd hb
  refine ⟨.ref a1, rfl, a1, _, 0, x1, rfl, rfl, hA, atI_nat (j := 0) rfl, .ref a2, rfl, a2, _, 0, x2, rfl, rfl, hB, atI_nat (j := 0) rfl, x1, x2, f.1, h.1, rfl, hx1, hx2, l13 zf.l1 (by omega), l13 zh.l1 (by omega), mk2_pow zf.b1 zh.b1 (by omega), fun H1 z1 s1 hz1 => ?_⟩
  refine ⟨.ref a1, rfl, a1, _, 1, y1, rfl, rfl, same_sqT s1 hA, atI_nat (j := 1) rfl, .ref a2, rfl, a2, _, 1, y2, rfl, rfl, same_sqT s1 hB, atI_nat (j := 1) rfl, y1, y2, f.2, h.2, rfl, hy1.same s1, hy2.same s1, l13 zf.l2 (by omega), l13 zh.l2 (by omega), mk2_pow zf.b2 zh.b2 (by omega), fun H2 z2 s2 hz2 => ?_⟩
  refine ⟨z1, z2, _, _, rfl, hz1.same s2, hz2, trim_ok _, trim_ok _, trim_pmul_ne If.can.ne Ih.can.ne If.can.tb Ih.can.tb, q1.1, q2.1, pow_up q1.2 (by omega), pow_up q2.2 (by omega), fun H3 z3 g s3 hz3 M => ?_⟩
  exact k _ _ _ ((s1.trans s2).trans s3) hz3 (M.untrim.is (If.mul Ih))
abbrev sBackOf : Stmt := topS 42
theorem scBackOf : FnScope ["one"] ["one"] (defScope sBackOf) := ⟨rfl, rfl, rfl, by decide +kernel, rfl, by decide +kernel, by decide +kernel⟩
def spBackOf (K : PySem.W.Frag) : Sp := fun vs H Q _ => ∃ (u : V) (f : Fn) (r : Int → Rat) (d b : Nat), vs = [u] ∧ Fv K H u f ∧ Is f r ∧ Sz f d b ∧ d ≤ 12 ∧ b ≤ 199 ∧ f ≠ ([], [1]) ∧
  ∀ H' z k, Same H H' → Fv K H' z k → Is k (fun x => 1 / r x) → Sz k d b → Q z H'
theorem ok_back_of (D : Df K mg "back_of" sBackOf ["one"]) (Gm : Ok P w K mg base 35 "made" ["top", "bottom"] (spMade K)) : Ok P w K mg base 36 "back_of" ["one"] (spBackOf K) := by
  refine D.ok (k := 35) scBackOf (fun vs H Q E h => by obtain ⟨u, f, r, d, b, rfl, _⟩ := h; rfl) fun f cdv A outer s H vs Q E hr h => ?_
  obtain ⟨u, f, r, d, b, rfl, ⟨a1, x1, y1, rfl, hA, hx1, hy1⟩, If, zf, hd, hb, hn, k⟩ := h
  refine ⟨_, pss_one (ps_ret (pc2 Gm hr (by rfl) (pe_ix ix_tup (pv 0) pe_int (fun _ _ => rfl)) (pe_ix ix_tup (pv 0) pe_int (fun _ _ => rfl)))), ?_⟩
  have l1 := zf.l1
  have l2 := zf.l2
  refine ⟨.ref a1, rfl, a1, _, 1, y1, rfl, rfl, hA, atI_nat (j := 1) rfl, .ref a1, rfl, a1, _, 0, x1, rfl, rfl, hA, atI_nat (j := 0) rfl, y1, x1, f.2, f.1, rfl, hy1, hx1, If.can.tb, If.can.tt, If.ne1 hn, by omega, by omega, pow_up zf.b2 (by omega), pow_up zf.b1 (by omega), fun H3 z3 g s3 hz3 M => ?_⟩
  exact k _ _ _ s3 hz3 (M.is (If.inv hn)) (back_sz If.can (If.ne1 hn) M zf)
abbrev sOverOf : Stmt := topS 43
theorem scOverOf : FnScope ["one", "other"] ["one", "other"] (defScope sOverOf) := ⟨rfl, rfl, rfl, by decide +kernel, rfl, by decide +kernel, by decide +kernel⟩
theorem ok_over_of (D : Df K mg "over_of" sOverOf ["one", "other"]) (Gt : Ok P w K mg base 36 "times_of" ["one", "other"] (spOp K cT (· * ·))) (Gb : Ok P w K mg base 36 "back_of" ["one"] (spBackOf K)) : Ok P w K mg base 37 "over_of" ["one", "other"] (spOp K cN (· / ·)) := by
  refine D.ok (k := 36) scOverOf spOp_len fun f cdv A outer s H vs Q E hr h => ?_
  obtain ⟨u, v, f, h, r, s', d, e, b, c, rfl, hu, hv, If, Ih, zf, zh, hd, hb, hn, k⟩ := h
  refine ⟨_, pss_one (ps_ret (pc2 Gt hr (by rfl) (pv 0) (pc1 Gb hr (by rfl) (pv 1)))), ?_⟩
  refine ⟨u, rfl, v, rfl, v, h, s', e, c, rfl, hv, Ih, zh, by omega, by omega, hn, fun H1 z g s1 hz Ig zg => ?_⟩
  refine ⟨u, z, f, g, r, _, d, e, b, c, rfl, hu.same s1, hz, If, Ig, zf, zg, hd, hb, trivial, fun H2 z2 g2 s2 hz2 I2 => ?_⟩
  exact k _ _ _ (s1.trans s2) hz2 (I2.congr (.all fun x => by show r x * (1 / s' x) = r x / s' x; grind))
/-! ### sums -/
abbrev sPlusOf : Stmt := topS 39
abbrev nPlusOf : List Str := ["one", "other", "top"]
theorem scPlusOf : FnScope nPlusOf ["one", "other"] (defScope sPlusOf) := ⟨rfl, rfl, rfl, by decide +kernel, rfl, by decide +kernel, by decide +kernel⟩
theorem ok_plus_of (D : Df K mg "plus_of" sPlusOf ["one", "other"]) (Gt : Ok P w K mg base 2 "poly_times" ["one", "other"] (spTimes K)) (Gp : Ok P w K mg base 2 "poly_plus" ["one", "other"] (spPlus K)) (Gm : Ok P w K mg base 35 "made" ["top", "bottom"] (spMade K)) : Ok P w K mg base 36 "plus_of" ["one", "other"] (spOp K cT (· + ·)) := by
  refine D.ok (k := 35) scPlusOf spOp_len fun f cdv A outer s H vs Q E hr h => ?_
  obtain ⟨u, v, f, h, r, s', d, e, b, c, rfl, ⟨a1, x1, y1, rfl, hA, hx1, hy1⟩, ⟨a2, x2, y2, rfl, hB, hx2, hy2⟩, If, Ih, zf, zh, hd, hb, _, k⟩ := h
  refine ⟨_, pss_cons (ps_set (i := 2) scPlusOf.nd rfl (.inl rfl) (pc2 Gp (hr.mono (by decide)) (by rfl) (pc2 Gt (hr.mono (by decide)) (by rfl) (pe_ix ix_tup (pv 0) pe_int (fun _ _ => rfl)) (pe_ix ix_tup (pv 1) pe_int (fun _ _ => rfl)))
      (pc2 Gt (hr.mono (by decide)) (by rfl) (pe_ix ix_tup (pv 1) pe_int (fun _ _ => rfl)) (pe_ix ix_tup (pv 0) pe_int (fun _ _ => rfl)))))
    (pss_one (ps_ret (pc2 Gm hr (by rfl) (pv 2) (pc2 Gt (hr.mono (by decide)) (by rfl) (pe_ix ix_tup (pv 0) pe_int (fun _ _ => rfl)) (pe_ix ix_tup (pv 1) pe_int (fun _ _ => rfl)))))), ?_⟩
  have l13 : ∀ {n m : Nat}, n ≤ m + 1 → m ≤ 12 → n ≤ 200 := fun h1 h2 => by omega
  have q1 := raw_mul zf.l1 zh.l2 zf.b1 zh.b2 hd hb
  have q2 := raw_mul zh.l1 zf.l2 zh.b1 zf.b2 (by omega) (by omega)
  have q3 := raw_mul zf.l2 zh.l2 zf.b2 zh.b2 hd hb
  have q4 := raw_add q1.1 q2.1 q1.2 (by rw [Nat.add_comm b c]; exact q2.2)
  refine ⟨.ref a1, rfl, a1, _, 0, x1, rfl, rfl, hA, atI_nat (j := 0) rfl, .ref a2, rfl, a2, _, 1, y2, rfl, rfl, hB, atI_nat (j := 1) rfl, x1, y2, f.1, h.2, rfl, hx1, hy2, l13 zf.l1 (by omega), l13 zh.l2 (by omega), mk2_pow zf.b1 zh.b2 (by omega), fun H1 z1 s1 hz1 => ?_⟩
  refine ⟨.ref a2, rfl, a2, _, 0, x2, rfl, rfl, same_sqT s1 hB, atI_nat (j := 0) rfl, .ref a1, rfl, a1, _, 1, y1, rfl, rfl, same_sqT s1 hA, atI_nat (j := 1) rfl, x2, y1, h.1, f.2, rfl, hx2.same s1, hy1.same s1, l13 zh.l1 (by omega), l13 zf.l2 (by omega), mk2_pow zh.b1 zf.b2 (by omega), fun H2 z2 s2 hz2 => ?_⟩
  refine ⟨z1, z2, _, _, rfl, hz1.same s2, hz2, by have := q1.1; omega, by have := q2.1; omega, fun H3 z3 s3 hz3 => ?_⟩
  have s13 := (s1.trans s2).trans s3
  refine ⟨z3, rfl, .ref a1, rfl, a1, _, 1, y1, rfl, rfl, same_sqT s13 hA, atI_nat (j := 1) rfl, .ref a2, rfl, a2, _, 1, y2, rfl, rfl, same_sqT s13 hB, atI_nat (j := 1) rfl, y1, y2, f.2, h.2, rfl, hy1.same s13, hy2.same s13, l13 zf.l2 (by omega), l13 zh.l2 (by omega), mk2_pow zf.b2 zh.b2 (by omega), fun H4 z4 s4 hz4 => ?_⟩
  refine ⟨z3, z4, _, _, rfl, hz3.same s4, hz4, trim_ok _, trim_ok _, trim_pmul_ne If.can.ne Ih.can.ne If.can.tb Ih.can.tb, q4.1, q3.1, pow_up q4.2 (by omega), pow_up q3.2 (by omega), fun H5 z5 g s5 hz5 M => ?_⟩
  refine k _ _ _ ((s13.trans s4).trans s5) hz5 ((show Made (padd (pmul f.1 h.2) (pmul h.1 f.2)) (pmul f.2 h.2) g from ⟨M.can, fun x => ?_⟩).is (If.add Ih))
  have := M.eq x
  rw [ev_trim, ev_trim, ev_padd, ev_trim, ev_trim] at this
  rw [ev_padd]; exact this
abbrev sMinusOf : Stmt := topS 40
theorem scMinusOf : FnScope nPlusOf ["one", "other"] (defScope sMinusOf) := ⟨rfl, rfl, rfl, by decide +kernel, rfl, by decide +kernel, by decide +kernel⟩
theorem ok_minus_of (D : Df K mg "minus_of" sMinusOf ["one", "other"]) (Gt : Ok P w K mg base 2 "poly_times" ["one", "other"] (spTimes K)) (Gp : Ok P w K mg base 3 "poly_minus" ["one", "other"] (spMinus K)) (Gm : Ok P w K mg base 35 "made" ["top", "bottom"] (spMade K)) : Ok P w K mg base 36 "minus_of" ["one", "other"] (spOp K cT (· - ·)) := by
  refine D.ok (k := 35) scMinusOf spOp_len fun f cdv A outer s H vs Q E hr h => ?_
  obtain ⟨u, v, f, h, r, s', d, e, b, c, rfl, ⟨a1, x1, y1, rfl, hA, hx1, hy1⟩, ⟨a2, x2, y2, rfl, hB, hx2, hy2⟩, If, Ih, zf, zh, hd, hb, _, k⟩ := h
  refine ⟨_, pss_cons (ps_set (i := 2) scMinusOf.nd rfl (.inl rfl) (pc2 Gp (hr.mono (by decide)) (by rfl) (pc2 Gt (hr.mono (by decide)) (by rfl) (pe_ix ix_tup (pv 0) pe_int (fun _ _ => rfl)) (pe_ix ix_tup (pv 1) pe_int (fun _ _ => rfl)))
      (pc2 Gt (hr.mono (by decide)) (by rfl) (pe_ix ix_tup (pv 1) pe_int (fun _ _ => rfl)) (pe_ix ix_tup (pv 0) pe_int (fun _ _ => rfl)))))
    (pss_one (ps_ret (pc2 Gm hr (by rfl) (pv 2) (pc2 Gt (hr.mono (by decide)) (by rfl) (pe_ix ix_tup (pv 0) pe_int (fun _ _ => rfl)) (pe_ix ix_tup (pv 1) pe_int (fun _ _ => rfl)))))), ?_⟩
  have l13 : ∀ {n m : Nat}, n ≤ m + 1 → m ≤ 12 → n ≤ 200 := fun h1 h2 => by omega
  have q1 := raw_mul zf.l1 zh.l2 zf.b1 zh.b2 hd hb
  have q2 := raw_mul zh.l1 zf.l2 zh.b1 zf.b2 (by omega) (by omega)
  have q3 := raw_mul zf.l2 zh.l2 zf.b2 zh.b2 hd hb
  have q4 := raw_add (p := trim (pmul f.1 h.2)) (q := psc (-1) (trim (pmul h.1 f.2))) (m := 13) q1.1 (by rw [length_psc]; exact q2.1) q1.2 (by rw [n1_neg, Nat.add_comm b c]; exact q2.2)
  refine ⟨.ref a1, rfl, a1, _, 0, x1, rfl, rfl, hA, atI_nat (j := 0) rfl, .ref a2, rfl, a2, _, 1, y2, rfl, rfl, hB, atI_nat (j := 1) rfl, x1, y2, f.1, h.2, rfl, hx1, hy2, l13 zf.l1 (by omega), l13 zh.l2 (by omega), mk2_pow zf.b1 zh.b2 (by omega), fun H1 z1 s1 hz1 => ?_⟩
  refine ⟨.ref a2, rfl, a2, _, 0, x2, rfl, rfl, same_sqT s1 hB, atI_nat (j := 0) rfl, .ref a1, rfl, a1, _, 1, y1, rfl, rfl, same_sqT s1 hA, atI_nat (j := 1) rfl, x2, y1, h.1, f.2, rfl, hx2.same s1, hy1.same s1, l13 zh.l1 (by omega), l13 zf.l2 (by omega), mk2_pow zh.b1 zf.b2 (by omega), fun H2 z2 s2 hz2 => ?_⟩
  refine ⟨z1, z2, _, _, rfl, hz1.same s2, hz2, by have := q1.1; omega, by have := q2.1; omega, fun H3 z3 s3 hz3 => ?_⟩
  have s13 := (s1.trans s2).trans s3
  refine ⟨z3, rfl, .ref a1, rfl, a1, _, 1, y1, rfl, rfl, same_sqT s13 hA, atI_nat (j := 1) rfl, .ref a2, rfl, a2, _, 1, y2, rfl, rfl, same_sqT s13 hB, atI_nat (j := 1) rfl, y1, y2, f.2, h.2, rfl, hy1.same s13, hy2.same s13, l13 zf.l2 (by omega), l13 zh.l2 (by omega), mk2_pow zf.b2 zh.b2 (by omega), fun H4 z4 s4 hz4 => ?_⟩
  refine ⟨z3, z4, _, _, rfl, hz3.same s4, hz4, trim_ok _, trim_ok _, trim_pmul_ne If.can.ne Ih.can.ne If.can.tb Ih.can.tb, q4.1, q3.1, pow_up q4.2 (by omega), pow_up q3.2 (by omega), fun H5 z5 g s5 hz5 M => ?_⟩
  refine k _ _ _ ((s13.trans s4).trans s5) hz5 ((show Made (padd (pmul f.1 h.2) (psc (-1) (pmul h.1 f.2))) (pmul f.2 h.2) g from ⟨M.can, fun x => ?_⟩).is (If.sub Ih))
  have := M.eq x
  rw [ev_trim, ev_trim, ev_padd, ev_trim, ev_psc, ev_trim] at this
  rw [ev_padd, ev_psc]; exact this
end
end CN
end
section
set_option Elab.async false
set_option linter.all false
set_option maxRecDepth 100000
set_option maxHeartbeats 4000000
namespace CN
open PySem PySem.Spec PyProof.Rows L2 PQ
theorem fok_of {f : Fn} {r : Int → Rat} {d b : Nat} (I : Is f r) (h : Sb r d b) (hd : d ≤ 12) (hb : b ≤ 190) : Fok f := by
  have z := I.size h
  exact ⟨I.can, by have := z.l1; omega, by have := z.l2; omega, pow_up z.b1 hb, pow_up z.b2 hb⟩
section
variable {P : Program} {w : World} {K : PySem.W.Frag} {mg : Str → Option Value} {base : Heap}
/-! ### add, subtract, multiply -/
def spChk (K : PySem.W.Frag) (g : Rat → Rat → Rat) : Sp := fun vs H Q _ => ∃ (u v : V) (f h : Fn) (r s : Int → Rat) (d e b c d' b' : Nat), vs = [u, v] ∧ Fv K H u f ∧ Fv K H v h ∧ Is f r ∧ Is h s ∧ Sb r d b ∧ Sb s e c ∧ d + e ≤ 12 ∧ b + c ≤ 199 ∧ b ≤ 190 ∧ c ≤ 190 ∧
  Sb (fun x => g (r x) (s x)) d' b' ∧ d' ≤ 12 ∧ ∀ H' z k, Same H H' → Fv K H' z k → Is k (fun x => g (r x) (s x)) → Q z H'
theorem spChk_len {g : Rat → Rat → Rat} (vs : List V) (H : Hp) (Q : VK) (E : XK) (h : spChk K g vs H Q E) : vs.length = 2 := by obtain ⟨u, v, f, h, r, s, d, e, b, c, d', b', rfl, _⟩ := h; rfl
theorem sc2 (st : Stmt) (h1 : (defScope st).kind = .function) (h2 : (defScope st).isCoroutine = false) (h3 : (defScope st).isGenerator = false) (h4 : ∀ x ∈ (["one", "other"] : List Str), (defScope st).names.lookup x = some .local ∨ (defScope st).names.lookup x = some .cell) (h5 : ∀ y ∈ (defScope st).names, y.2 ≠ .free) :
    FnScope ["one", "other"] ["one", "other"] (defScope st) := ⟨h1, h2, h3, by decide +kernel, rfl, h4, h5⟩
abbrev sAdd : Stmt := topS 44
theorem scAdd : FnScope ["one", "other"] ["one", "other"] (defScope sAdd) := sc2 _ rfl rfl rfl (by decide +kernel) (by decide +kernel)
abbrev sSub : Stmt := topS 45
theorem scSub : FnScope ["one", "other"] ["one", "other"] (defScope sSub) := sc2 _ rfl rfl rfl (by decide +kernel) (by decide +kernel)
abbrev sMul : Stmt := topS 46
theorem scMul : FnScope ["one", "other"] ["one", "other"] (defScope sMul) := sc2 _ rfl rfl rfl (by decide +kernel) (by decide +kernel)
/-- the reading that the three have in common -/
theorem chk_rd {g : Rat → Rat → Rat} {u v : V} {f h : Fn} {r s : Int → Rat} {d e b c d' b' : Nat} {H : Hp} {D : Ends} (hu : Fv K H u f) (hv : Fv K H v h) (If : Is f r) (Ih : Is h s) (zf : Sb r d b) (zh : Sb s e c) (hd : d + e ≤ 12) (hb : b + c ≤ 199) (hb1 : b ≤ 190) (hb2 : c ≤ 190)
    (zk : Sb (fun x => g (r x) (s x)) d' b') (hd' : d' ≤ 12) (k : ∀ H' z k, Same H H' → Fv K H' z k → Is k (fun x => g (r x) (s x)) → D.rt z H') :
    tSeq (tDrop (t1 (fun vs H Q => spNeedFn K vs H Q E0) (tVar 0))) (tSeq (tDrop (t1 (fun vs H Q => spNeedFn K vs H Q E0) (tVar 1))) (tRet (t1 (fun vs H Q => spSmall K vs H Q E0) (t2 (fun vs H Q => spOp K cT g vs H Q E0) (tVar 0) (tVar 1))))) D [some u, some v] H := by
  refine ⟨u, rfl, u, f, rfl, hu, fok_of If zf (by omega) hb1, fun H1 s1 => ⟨v, rfl, v, h, rfl, hv.same s1, fok_of Ih zh (by omega) hb2, fun H2 s2 => ?_⟩⟩
  have s12 := s1.trans s2
  refine ⟨u, rfl, v, rfl, u, v, f, h, r, s, d, e, b, c, rfl, hu.same s12, hv.same s12, If, Ih, If.size zf, Ih.size zh, hd, hb, trivial, fun H3 z q s3 hz Iq => ?_⟩
  have zq := Iq.size zk
  exact ⟨z, q, rfl, hz, by have := zq.l1; omega, by have := zq.l2; omega, k _ _ _ (s12.trans s3) hz Iq⟩
theorem ok_add (D : Df K mg "add" sAdd ["one", "other"]) (Gn : Ok P w K mg base 37 "need_function" ["value"] (spNeedFn K)) (Go : Ok P w K mg base 36 "plus_of" ["one", "other"] (spOp K cT (· + ·))) (Gs : Ok P w K mg base 1 "small" ["one"] (spSmall K)) : Ok P w K mg base 38 "add" ["one", "other"] (spChk K (· + ·)) := by
  refine D.ok (k := 37) scAdd spChk_len fun f cdv A outer s H vs Q E hr h => ?_
  obtain ⟨u, v, f, h, r, s', d, e, b, c, d', b', rfl, hu, hv, If, Ih, zf, zh, hd, hb, hb1, hb2, zk, hd', k⟩ := h
  exact ⟨_, pss_cons (ps_expr (pc1 Gn hr (by rfl) (pv 0))) (pss_cons (ps_expr (pc1 Gn hr (by rfl) (pv 1))) (pss_one (ps_ret (pc1 Gs (hr.mono (by decide)) (by rfl) (pc2 Go (hr.mono (by decide)) (by rfl) (pv 0) (pv 1)))))), chk_rd hu hv If Ih zf zh hd hb hb1 hb2 zk hd' k⟩
theorem ok_sub (D : Df K mg "subtract" sSub ["one", "other"]) (Gn : Ok P w K mg base 37 "need_function" ["value"] (spNeedFn K)) (Go : Ok P w K mg base 36 "minus_of" ["one", "other"] (spOp K cT (· - ·))) (Gs : Ok P w K mg base 1 "small" ["one"] (spSmall K)) : Ok P w K mg base 38 "subtract" ["one", "other"] (spChk K (· - ·)) := by
  refine D.ok (k := 37) scSub spChk_len fun f cdv A outer s H vs Q E hr h => ?_
  obtain ⟨u, v, f, h, r, s', d, e, b, c, d', b', rfl, hu, hv, If, Ih, zf, zh, hd, hb, hb1, hb2, zk, hd', k⟩ := h
  exact ⟨_, pss_cons (ps_expr (pc1 Gn hr (by rfl) (pv 0))) (pss_cons (ps_expr (pc1 Gn hr (by rfl) (pv 1))) (pss_one (ps_ret (pc1 Gs (hr.mono (by decide)) (by rfl) (pc2 Go (hr.mono (by decide)) (by rfl) (pv 0) (pv 1)))))), chk_rd hu hv If Ih zf zh hd hb hb1 hb2 zk hd' k⟩
theorem ok_mul (D : Df K mg "multiply" sMul ["one", "other"]) (Gn : Ok P w K mg base 37 "need_function" ["value"] (spNeedFn K)) (Go : Ok P w K mg base 36 "times_of" ["one", "other"] (spOp K cT (· * ·))) (Gs : Ok P w K mg base 1 "small" ["one"] (spSmall K)) : Ok P w K mg base 38 "multiply" ["one", "other"] (spChk K (· * ·)) := by
  refine D.ok (k := 37) scMul spChk_len fun f cdv A outer s H vs Q E hr h => ?_
  obtain ⟨u, v, f, h, r, s', d, e, b, c, d', b', rfl, hu, hv, If, Ih, zf, zh, hd, hb, hb1, hb2, zk, hd', k⟩ := h
  exact ⟨_, pss_cons (ps_expr (pc1 Gn hr (by rfl) (pv 0))) (pss_cons (ps_expr (pc1 Gn hr (by rfl) (pv 1))) (pss_one (ps_ret (pc1 Gs (hr.mono (by decide)) (by rfl) (pc2 Go (hr.mono (by decide)) (by rfl) (pv 0) (pv 1)))))), chk_rd hu hv If Ih zf zh hd hb hb1 hb2 zk hd' k⟩

/-! ### chains -/
/-- v is a tuple of four functions with these germs -/
def ChV (K : PySem.W.Frag) (H : Hp) (v : V) (a b c d : Int → Rat) : Prop := ∃ (t : Addr) (u1 u2 u3 u4 : V) (f1 f2 f3 f4 : Fn), v = .ref t ∧ SqT K H t [u1, u2, u3, u4] ∧ Fv K H u1 f1 ∧ Fv K H u2 f2 ∧ Fv K H u3 f3 ∧ Fv K H u4 f4 ∧ Is f1 a ∧ Is f2 b ∧ Is f3 c ∧ Is f4 d
theorem ChV.same {H H' : Hp} {v : V} {a b c d : Int → Rat} (h : ChV K H v a b c d) (e : Same H H') : ChV K H' v a b c d := by
  obtain ⟨t, u1, u2, u3, u4, f1, f2, f3, f4, e1, e2, h1, h2, h3, h4, r⟩ := h
  exact ⟨t, u1, u2, u3, u4, f1, f2, f3, f4, e1, same_sqT e e2, h1.same e, h2.same e, h3.same e, h4.same e, r⟩
abbrev sMeasure : Stmt := topS 59
theorem scMeasure : FnScope ["chain"] ["chain"] (defScope sMeasure) := ⟨rfl, rfl, rfl, by decide +kernel, rfl, by decide +kernel, by decide +kernel⟩
def spMeasure (K : PySem.W.Frag) : Sp := fun vs H Q _ => ∃ (v : V) (a b c d : Int → Rat), vs = [v] ∧ ChV K H v a b c d ∧ Base4 a b c d ∧ ∀ H' z k, Same H H' → Fv K H' z k → Is k (gm a b c d) → Q z H'
theorem ok_measure (D : Df K mg "measure" sMeasure ["chain"]) (Gt : Ok P w K mg base 36 "times_of" ["one", "other"] (spOp K cT (· * ·))) (Gm : Ok P w K mg base 36 "minus_of" ["one", "other"] (spOp K cT (· - ·))) : Ok P w K mg base 37 "measure" ["chain"] (spMeasure K) := by
  refine D.ok (k := 36) scMeasure (fun vs H Q E h => by obtain ⟨v, a, b, c, d, rfl, _⟩ := h; rfl) fun f cdv A outer s H vs Q E hr h => ?_
  obtain ⟨v, a, b, c, d, rfl, ⟨t, u1, u2, u3, u4, f1, f2, f3, f4, rfl, hT, h1, h2, h3, h4, I1, I2, I3, I4⟩, S, k⟩ := h
  refine ⟨_, pss_one (ps_ret (pc2 Gm hr (by rfl) (pc2 Gt hr (by rfl) (pe_ix ix_tup (pv 0) pe_int (fun _ _ => rfl)) (pe_ix ix_tup (pv 0) pe_int (fun _ _ => rfl))) (pc2 Gt hr (by rfl) (pe_ix ix_tup (pv 0) pe_int (fun _ _ => rfl)) (pe_ix ix_tup (pv 0) pe_int (fun _ _ => rfl))))), ?_⟩
  refine ⟨.ref t, rfl, t, _, 0, u1, rfl, rfl, hT, atI_nat (j := 0) rfl, .ref t, rfl, t, _, 3, u4, rfl, rfl, hT, atI_nat (j := 3) rfl, u1, u4, f1, f4, a, d, 3, 3, 31, 31, rfl, h1, h4, I1, I4, I1.size S.sa, I4.size S.sd, by omega, by omega, trivial, fun H1 z1 k1 s1 hz1 J1 => ?_⟩
  refine ⟨.ref t, rfl, t, _, 1, u2, rfl, rfl, same_sqT s1 hT, atI_nat (j := 1) rfl, .ref t, rfl, t, _, 2, u3, rfl, rfl, same_sqT s1 hT, atI_nat (j := 2) rfl, u2, u3, f2, f3, b, c, 3, 3, 31, 31, rfl, h2.same s1, h3.same s1, I2, I3, I2.size S.sb, I3.size S.sc, by omega, by omega, trivial, fun H2 z2 k2 s2 hz2 J2 => ?_⟩
  exact ⟨z1, z2, k1, k2, _, _, 6, 6, 71, 71, rfl, hz1.same s2, hz2, J1, J2, J1.size S.ad, J2.size S.bc, by omega, by omega, trivial, fun H3 z3 k3 s3 hz3 J3 => k _ _ _ ((s1.trans s2).trans s3) hz3 J3⟩
/-- a comparison with ZERO -/
theorem zero_iff {f : Fn} {r : Int → Rat} (I : Is f r) : (f = ([], [1]) → Evt fun x => r x = 0) ∧ (f ≠ ([], [1]) → Nz r) := by
  refine ⟨fun e => ?_, I.ne⟩
  subst e
  exact I.eq.mono fun x hx => by simpa [er] using hx
theorem nz_not {r : Int → Rat} (h : Nz r) (h2 : Evt fun x => r x = 0) : False := by
  obtain ⟨x, h3, h4⟩ := (Evt.and h h2).ex
  exact h3 h4
abbrev sNeedChain : Stmt := topS 60
abbrev nNeedChain : List Str := ["value", "index", "told"]
theorem scNeedChain : FnScope nNeedChain ["value"] (defScope sNeedChain) := ⟨rfl, rfl, rfl, by decide +kernel, rfl, by decide +kernel, by decide +kernel⟩
def spNeedChain (K : PySem.W.Frag) : Sp := fun vs H Q _ => ∃ (v : V) (a b c d : Int → Rat), vs = [v] ∧ ChV K H v a b c d ∧ Base4 a b c d ∧ Nz (gm a b c d) ∧ ∀ H', Same H H' → Q .non H'
theorem ok_need_chain (D : Df K mg "need_chain" sNeedChain ["value"]) (B : Bi mg) (hZ : Kc K mg "ZERO" ([], [1])) (Gi : Ok P w K mg base 36 "is_function" ["value"] (spIsFn K)) (Gm : Ok P w K mg base 37 "measure" ["chain"] (spMeasure K)) : Ok P w K mg base 38 "need_chain" ["value"] (spNeedChain K) := by
  refine D.ok (k := 37) scNeedChain (fun vs H Q E h => by obtain ⟨v, a, b, c, d, rfl, _⟩ := h; rfl) fun f cdv A outer s H vs Q E hr h => ?_
  obtain ⟨v, a, b, c, d, rfl, hv, S, hm, k⟩ := h
  obtain ⟨t, u1, u2, u3, u4, f1, f2, f3, f4, rfl, hT, h1, h2, h3, h4, I1, I2, I3, I4⟩ := id hv
  refine ⟨_, pss_cons (ps_if (PW.pt (pw_or (pt_not (pt_val (pisi B.isinstance B.tuple bt_tuple (by rfl) (by rfl) (pv 0)))) (pw_or1 (pt_cmpR op_ne (pb1 call_len_seq B.len bt_len (by rfl) (pv 0)) pe_int (nomark _))))) (pss_one ps_never) pss_nil)
    (pss_cons (ps_for PassesOwn.never rfl (pi_enumT (by rfl) B.enumerate (pa_cons (pv 0) pa_nil)) (pg_tup rfl (pgs_cons (pg_name (i := 1) scNeedChain.nd rfl (.inl rfl)) (pgs_cons (pg_name (i := 2) scNeedChain.nd rfl (.inl rfl)) pgs_nil)))
      (pss_one (ps_if (pt_not (pt_val (pc1 Gi (hr.mono (by decide)) (by rfl) (pv 2)))) (pss_one ps_never) pss_nil)))
    (pss_one (ps_if (pt_cmpR (op_eqD hr.units) (pc1 Gm hr (by rfl) (pv 0)) (pe_kc hZ (by rfl)) (nomark _)) (pss_one ps_never) pss_nil))), ?_⟩
  refine ⟨.ref t, rfl, isi_tup hT ⟨true, rfl, iteF ⟨.ref t, rfl, t, _, rfl, .inr hT, rfl, _, rfl, iteF ⟨.ref t, rfl, t, _, rfl, hT, ?_⟩⟩⟩⟩
  have all : ∀ u ∈ [u1, u2, u3, u4], ∃ f : Fn, Fv K H u f ∧ Fok f := fun u hu => by
    simp only [List.mem_cons, List.not_mem_nil, or_false] at hu
    rcases hu with rfl | rfl | rfl | rfl
    · exact ⟨f1, h1, fok_of I1 S.sa (by omega) (by omega)⟩
    · exact ⟨f2, h2, fok_of I2 S.sb (by omega) (by omega)⟩
    · exact ⟨f3, h3, fok_of I3 S.sc (by omega) (by omega)⟩
    · exact ⟨f4, h4, fok_of I4 S.sd (by omega) (by omega)⟩
  refine for_enumT (fun i σ H' => (∃ y1 y2, σ = [some (.ref t), y1, y2]) ∧ Same H H') ⟨⟨_, _, rfl⟩, Same.refl H⟩ (fun i σ H' z => same_sqT z.2 hT) (fun i u T σ H' hu z nT => ?_) fun σ H' z => ?_
  · obtain ⟨⟨y1, y2, rfl⟩, z1⟩ := z
    obtain ⟨g, hg, og⟩ := all u (List.mem_of_getElem? hu)
    have s2 := z1.trans (same_upd (o := .tup [.int (i : Nat), u]) nT)
    exact ⟨T, _, rfl, .of upd_same, rfl, _, _, rfl, _, _, rfl, rfl, u, rfl, u, g, rfl, hg.same s2, og, fun H2 s3 => ⟨true, rfl, iteF ⟨⟨_, _, rfl⟩, s2.trans s3⟩⟩⟩
  · obtain ⟨⟨y1, y2, rfl⟩, z1⟩ := z
    refine ⟨.ref t, rfl, .ref t, a, b, c, d, rfl, hv.same z1, S, fun H2 z g s2 hz Ig => fun zr hzr => eq_fn hz hzr ⟨_, rfl, ?_⟩⟩
    rw [decide_eq_false (fun e => nz_not hm ((zero_iff Ig).1 e))]
    exact iteF (k _ (z1.trans s2))
abbrev sAllSmall : Stmt := topS 61
abbrev nAllSmall : List Str := ["some", "one"]
theorem scAllSmall : FnScope nAllSmall ["some"] (defScope sAllSmall) := ⟨rfl, rfl, rfl, by decide +kernel, rfl, by decide +kernel, by decide +kernel⟩
/-- a tuple of four functions of degrees of at most 12 -/
def spAllSmall (K : PySem.W.Frag) : Sp := fun vs H Q _ => ∃ (v : V) (a b c d : Int → Rat) (d1 d2 d3 d4 b1 b2 b3 b4 : Nat), vs = [v] ∧ ChV K H v a b c d ∧ Sb a d1 b1 ∧ Sb b d2 b2 ∧ Sb c d3 b3 ∧ Sb d d4 b4 ∧ d1 ≤ 12 ∧ d2 ≤ 12 ∧ d3 ≤ 12 ∧ d4 ≤ 12 ∧
  ∀ H' z, Same H H' → ChV K H' z a b c d → Q z H'
theorem ok_all_small (D : Df K mg "all_small" sAllSmall ["some"]) (B : Bi mg) (Gs : Ok P w K mg base 1 "small" ["one"] (spSmall K)) : Ok P w K mg base 2 "all_small" ["some"] (spAllSmall K) := by
  refine D.ok (k := 1) scAllSmall (fun vs H Q E h => by obtain ⟨v, a, b, c, d, d1, d2, d3, d4, b1, b2, b3, b4, rfl, _⟩ := h; rfl) fun f cdv A outer s H vs Q E hr h => ?_
  obtain ⟨v, a, b, c, d, d1, d2, d3, d4, b1, b2, b3, b4, rfl, ⟨t, u1, u2, u3, u4, f1, f2, f3, f4, rfl, hT, h1, h2, h3, h4, I1, I2, I3, I4⟩, S1, S2, S3, S4, l1, l2, l3, l4, k⟩ := h
  refine ⟨_, pss_one (ps_ret (pt1 call_tuple_of B.tuple bt_tuple (by rfl) (pe_mapV (j := 0) (pe_lc (own := [("one", 1)]) (g := gName 1) (tt := tYes) rfl scAllSmall.nd (pi_tup (pv 0)) (blkOk_by (own := [("one", 1)]) (N := nAllSmall) (sc := defScope sAllSmall) (by decide +kernel))
    (fun _ _ _ _ _ => pg_name (i := 1) scAllSmall.nd rfl (Or.inl rfl)) (fun _ _ _ _ _ => pts_nil) (fun _ _ _ _ _ => pc1 Gs hr (by rfl) (pv 1)))))), ?_⟩
  have fin : ∀ {f : Fn} {r : Int → Rat} {d b : Nat} (I : Is f r), Sb r d b → d ≤ 12 → f.1.length ≤ 13 ∧ f.2.length ≤ 13 := fun I h hd => by
    have z := I.size h
    exact ⟨by have := z.l1; omega, by have := z.l2; omega⟩
  have all : ∀ u ∈ [u1, u2, u3, u4], ∃ f : Fn, Fv K H u f ∧ f.1.length ≤ 13 ∧ f.2.length ≤ 13 := fun u hu => by
    simp only [List.mem_cons, List.not_mem_nil, or_false] at hu
    rcases hu with rfl | rfl | rfl | rfl
    · exact ⟨f1, h1, fin I1 S1 l1⟩
    · exact ⟨f2, h2, fin I2 S2 l2⟩
    · exact ⟨f3, h3, fin I3 S3 l3⟩
    · exact ⟨f4, h4, fin I4 S4 l4⟩
  refine ⟨t, [u1, u2, u3, u4], id, rfl, hT, (by decide : 4 ≤ 1000), fun _ => rfl, fun u hu H' R s' q => ?_, fun H' Dl s' hD => ⟨Dl, _, rfl, .inl ⟨.of hD, fun l nl => ?_⟩⟩⟩
  · obtain ⟨g, hg, g1, g2⟩ := all u hu
    exact ⟨u, rfl, u, g, rfl, hg.same s', g1, g2, q⟩
  · have s2 := s'.trans (same_upd (o := .tup ([u1, u2, u3, u4].map id)) nl)
    exact k _ _ s2 ⟨l, u1, u2, u3, u4, f1, f2, f3, f4, rfl, .of (by rw [upd_same]; rfl), h1.same s2, h2.same s2, h3.same s2, h4.same s2, I1, I2, I3, I4⟩
end
end CN
end
section
set_option Elab.async false
set_option linter.all false
set_option maxRecDepth 100000
set_option maxHeartbeats 4000000
namespace CN
open PySem PySem.Spec PyProof.Rows L2 PQ
theorem sz_zero : Sz ([], [1]) 0 0 := ⟨by decide, by decide, by decide, by decide⟩
abbrev G4 := (Int → Rat) → (Int → Rat) → (Int → Rat) → (Int → Rat) → Int → Rat
abbrev iP : G4 := fun a _ c _ x => a x / c x
abbrev iQ : G4 := fun a b c d x => gm a b c d x / c x
abbrev iR : G4 := fun _ _ c _ x => 1 / c x
abbrev iT : G4 := fun _ _ c d x => d x / c x
abbrev aP : G4 := fun _ b _ d x => d x / b x
abbrev aQ : G4 := fun a b c d x => 0 - gm a b c d x / b x
abbrev aR : G4 := fun _ b _ _ x => 0 - 1 / b x
abbrev aT : G4 := fun a b _ _ x => a x / b x
abbrev hP : G4 := fun _ b _ d x => b x / d x
abbrev hQ : G4 := fun a b c d x => gm a b c d x / d x
abbrev hR : G4 := fun _ _ _ d x => 0 - 1 / d x
abbrev hT : G4 := fun _ _ c d x => c x / d x
abbrev gB : G4 := fun _ b _ _ => b
abbrev gC : G4 := fun _ _ c _ => c
abbrev gD : G4 := fun _ _ _ d => d
section
variable {P : Program} {w : World} {K : PySem.W.Frag} {mg : Str → Option Value} {base : Heap}
abbrev sNegative : Stmt := topS 68
theorem scNegative : FnScope ["one"] ["one"] (defScope sNegative) := ⟨rfl, rfl, rfl, by decide +kernel, rfl, by decide +kernel, by decide +kernel⟩
def spNeg (K : PySem.W.Frag) : Sp := fun vs H Q _ => ∃ (u : V) (f : Fn) (r : Int → Rat) (d b : Nat), vs = [u] ∧ Fv K H u f ∧ Is f r ∧ Sz f d b ∧ d ≤ 12 ∧ b ≤ 190 ∧ ∀ H' z k, Same H H' → Fv K H' z k → Is k (fun x => 0 - r x) → Q z H'
theorem ok_negative (D : Df K mg "negative" sNegative ["one"]) (hZ : Kc K mg "ZERO" ([], [1])) (Gm : Ok P w K mg base 36 "minus_of" ["one", "other"] (spOp K cT (· - ·))) : Ok P w K mg base 37 "negative" ["one"] (spNeg K) := by
  refine D.ok (k := 36) scNegative (fun vs H Q E h => by obtain ⟨u, f, r, d, b, rfl, _⟩ := h; rfl) fun f cdv A outer s H vs Q E hr h => ?_
  obtain ⟨u, f, r, d, b, rfl, hu, If, zf, hd, hb, k⟩ := h
  exact ⟨_, pss_one (ps_ret (pc2 Gm hr (by rfl) (pe_kc hZ (by rfl)) (pv 0))), fun z hz => ⟨u, rfl, .ref z, u, ([], [1]), f, _, r, 0, d, 0, b, rfl, hz, hu, is_zero, If, sz_zero, zf, by omega, by omega, trivial, k⟩⟩
/-- four functions made of a chain, or None -/
def spFour (K : PySem.W.Frag) (N A1 A2 A3 A4 : G4) : Sp := fun vs H Q _ => ∃ (v : V) (a b c d : Int → Rat), vs = [v] ∧ ChV K H v a b c d ∧ Plan a b c d ∧ ((Evt fun x => N a b c d x = 0) → ∀ H', Same H H' → Q .non H') ∧
  (Nz (N a b c d) → ∀ H' z, Same H H' → ChV K H' z (A1 a b c d) (A2 a b c d) (A3 a b c d) (A4 a b c d) → Q z H')
theorem spFour_len {N A1 A2 A3 A4 : G4} (vs : List V) (H : Hp) (Q : VK) (E : XK) (h : spFour K N A1 A2 A3 A4 vs H Q E) : vs.length = 1 := by obtain ⟨v, a, b, c, d, rfl, _⟩ := h; rfl
abbrev nFour : List Str := ["chain", "a", "b", "c", "d"]
abbrev sImp : Stmt := topS 69
theorem scImp : FnScope nFour ["chain"] (defScope sImp) := ⟨rfl, rfl, rfl, by decide +kernel, rfl, by decide +kernel, by decide +kernel⟩
theorem ok_impedances (D : Df K mg "impedances" sImp ["chain"]) (hZ : Kc K mg "ZERO" ([], [1])) (Go : Ok P w K mg base 37 "over_of" ["one", "other"] (spOp K cN (· / ·))) (Gb : Ok P w K mg base 36 "back_of" ["one"] (spBackOf K)) (Gm : Ok P w K mg base 37 "measure" ["chain"] (spMeasure K)) :
    Ok P w K mg base 38 "impedances" ["chain"] (spFour K gC iP iQ iR iT) := by
  refine D.ok (k := 37) scImp spFour_len fun f cdv A outer s H vs Q E hr h => ?_
  obtain ⟨v, a, b, c, d, rfl, hv, PL, k0, k1⟩ := h
  obtain ⟨t, u1, u2, u3, u4, f1, f2, f3, f4, rfl, hT, h1, h2, h3, h4, I1, I2, I3, I4⟩ := id hv
  have S := PL.s
  refine ⟨_, pss_cons (ps_asg (pv 0) (pg_tup rfl (pgs_cons (pg_name (i := 1) scImp.nd rfl (.inl rfl)) (pgs_cons (pg_name (i := 2) scImp.nd rfl (.inl rfl)) (pgs_cons (pg_name (i := 3) scImp.nd rfl (.inl rfl)) (pgs_cons (pg_name (i := 4) scImp.nd rfl (.inl rfl)) pgs_nil))))))
    (pss_cons (ps_if (pt_cmpR (op_eqD hr.units) (pv 3) (pe_kc hZ (by rfl)) (nomark _)) (pss_one (ps_ret pe_non)) pss_nil)
    (pss_one (ps_ret (pe_tup (pa_cons (pc2 Go hr (by rfl) (pv 1) (pv 3)) (pa_cons (pc2 Go hr (by rfl) (pc1 Gm hr (by rfl) (pv 0)) (pv 3)) (pa_cons (pc1 Gb (hr.mono (by decide)) (by rfl) (pv 3)) (pa_cons (pc2 Go hr (by rfl) (pv 4) (pv 3)) pa_nil)))))))), ?_⟩
  refine ⟨.ref t, rfl, t, _, rfl, hT, rfl, u1, _, rfl, u2, _, rfl, u3, _, rfl, u4, [], rfl, rfl, u3, rfl, fun z hz => eq_fn h3 hz ⟨_, rfl, ite2 (fun e => ?_) (fun e => ?_)⟩⟩
  · exact k0 ((zero_iff I3).1 (of_decide_eq_true e)) _ (Same.refl H)
  have hn : f3 ≠ ([], [1]) := fun q => e (decide_eq_true q)
  have nz := (zero_iff I3).2 hn
  have pc := PL.pc nz
  refine ⟨u1, rfl, u3, rfl, u1, u3, f1, f3, a, c, 3, 3, 31, 31, rfl, h1, h3, I1, I3, I1.size S.sa, I3.size S.sc, by omega, by omega, hn, fun H1 z1 k1' s1 hz1 J1 => ?_⟩
  refine ⟨.ref t, rfl, .ref t, a, b, c, d, rfl, hv.same s1, S, fun H2 zm km s2 hzm Jm => ?_⟩
  have s12 := s1.trans s2
  refine ⟨u3, rfl, zm, u3, km, f3, _, c, 4, 3, 44, 31, rfl, hzm, h3.same s12, Jm, I3, Jm.size S.m, I3.size S.sc, by omega, by omega, hn, fun H3 z2 k2' s3 hz2 J2 => ?_⟩
  have s13 := s12.trans s3
  refine ⟨u3, rfl, u3, f3, c, 3, 31, rfl, h3.same s13, I3, I3.size S.sc, by omega, by omega, hn, fun H4 z3 k3' s4 hz3 J3 _ => ?_⟩
  have s14 := s13.trans s4
  refine ⟨u4, rfl, u3, rfl, u4, u3, f4, f3, d, c, 3, 3, 31, 31, rfl, h4.same s14, h3.same s14, I4, I3, I4.size S.sd, I3.size S.sc, by omega, by omega, hn, fun H5 z4 k4' s5 hz4 J4 => ⟨(by decide : 4 ≤ sizeLine), fun l nl => ?_⟩⟩
  have s6 := same_upd (o := .tup [z1, z2, z3, z4]) nl
  exact k1 nz _ _ ((s14.trans s5).trans s6) ⟨l, z1, z2, z3, z4, k1', k2', k3', k4', rfl, .of upd_same, (((hz1.same (s2.trans s3)).same s4).same s5).same s6, ((hz2.same s4).same s5).same s6, (hz3.same s5).same s6, hz4.same s6, J1, J2, J3, J4⟩
abbrev sAdm : Stmt := topS 70
theorem scAdm : FnScope nFour ["chain"] (defScope sAdm) := ⟨rfl, rfl, rfl, by decide +kernel, rfl, by decide +kernel, by decide +kernel⟩
theorem ok_admittances (D : Df K mg "admittances" sAdm ["chain"]) (hZ : Kc K mg "ZERO" ([], [1])) (Go : Ok P w K mg base 37 "over_of" ["one", "other"] (spOp K cN (· / ·))) (Gb : Ok P w K mg base 36 "back_of" ["one"] (spBackOf K)) (Gm : Ok P w K mg base 37 "measure" ["chain"] (spMeasure K))
    (Gn : Ok P w K mg base 37 "negative" ["one"] (spNeg K)) : Ok P w K mg base 38 "admittances" ["chain"] (spFour K gB aP aQ aR aT) := by
  refine D.ok (k := 37) scAdm spFour_len fun f cdv A outer s H vs Q E hr h => ?_
  obtain ⟨v, a, b, c, d, rfl, hv, PL, k0, k1⟩ := h
  obtain ⟨t, u1, u2, u3, u4, f1, f2, f3, f4, rfl, hT, h1, h2, h3, h4, I1, I2, I3, I4⟩ := id hv
  have S := PL.s
  refine ⟨_, pss_cons (ps_asg (pv 0) (pg_tup rfl (pgs_cons (pg_name (i := 1) scAdm.nd rfl (.inl rfl)) (pgs_cons (pg_name (i := 2) scAdm.nd rfl (.inl rfl)) (pgs_cons (pg_name (i := 3) scAdm.nd rfl (.inl rfl)) (pgs_cons (pg_name (i := 4) scAdm.nd rfl (.inl rfl)) pgs_nil))))))
    (pss_cons (ps_if (pt_cmpR (op_eqD hr.units) (pv 2) (pe_kc hZ (by rfl)) (nomark _)) (pss_one (ps_ret pe_non)) pss_nil)
    (pss_one (ps_ret (pe_tup (pa_cons (pc2 Go hr (by rfl) (pv 4) (pv 2)) (pa_cons (pc1 Gn hr (by rfl) (pc2 Go hr (by rfl) (pc1 Gm hr (by rfl) (pv 0)) (pv 2))) (pa_cons (pc1 Gn hr (by rfl) (pc1 Gb (hr.mono (by decide)) (by rfl) (pv 2))) (pa_cons (pc2 Go hr (by rfl) (pv 1) (pv 2)) pa_nil)))))))), ?_⟩
  refine ⟨.ref t, rfl, t, _, rfl, hT, rfl, u1, _, rfl, u2, _, rfl, u3, _, rfl, u4, [], rfl, rfl, u2, rfl, fun z hz => eq_fn h2 hz ⟨_, rfl, ite2 (fun e => ?_) (fun e => ?_)⟩⟩
  · exact k0 ((zero_iff I2).1 (of_decide_eq_true e)) _ (Same.refl H)
  have hn : f2 ≠ ([], [1]) := fun q => e (decide_eq_true q)
  have nz := (zero_iff I2).2 hn
  have pb := PL.pb nz
  refine ⟨u4, rfl, u2, rfl, u4, u2, f4, f2, d, b, 3, 3, 31, 31, rfl, h4, h2, I4, I2, I4.size S.sd, I2.size S.sb, by omega, by omega, hn, fun H1 z1 k1' s1 hz1 J1 => ?_⟩
  refine ⟨.ref t, rfl, .ref t, a, b, c, d, rfl, hv.same s1, S, fun H2 zm km s2 hzm Jm => ?_⟩
  have s12 := s1.trans s2
  refine ⟨u2, rfl, zm, u2, km, f2, _, b, 4, 3, 44, 31, rfl, hzm, h2.same s12, Jm, I2, Jm.size S.m, I2.size S.sb, by omega, by omega, hn, fun H3 z2 k2' s3 hz2 J2 => ?_⟩
  refine ⟨z2, k2', _, 4, 44, rfl, hz2, J2, J2.size pb.mb, by omega, by omega, fun H3' z2' k2'' s3' hz2' J2' => ?_⟩
  have s13 := (s12.trans s3).trans s3'
  refine ⟨u2, rfl, u2, f2, b, 3, 31, rfl, h2.same s13, I2, I2.size S.sb, by omega, by omega, hn, fun H4 z3 k3' s4 hz3 J3 zz3 => ?_⟩
  refine ⟨z3, k3', _, 3, 31, rfl, hz3, J3, zz3, by omega, by omega, fun H4' z3' k3'' s4' hz3' J3' => ?_⟩
  have s14 := (s13.trans s4).trans s4'
  refine ⟨u1, rfl, u2, rfl, u1, u2, f1, f2, a, b, 3, 3, 31, 31, rfl, h1.same s14, h2.same s14, I1, I2, I1.size S.sa, I2.size S.sb, by omega, by omega, hn, fun H5 z4 k4' s5 hz4 J4 => ⟨(by decide : 4 ≤ sizeLine), fun l nl => ?_⟩⟩
  have s6 := same_upd (o := .tup [z1, z2', z3', z4]) nl
  exact k1 nz _ _ ((s14.trans s5).trans s6) ⟨l, z1, z2', z3', z4, k1', k2'', k3'', k4', rfl, .of upd_same, ((hz1.same ((s2.trans s3).trans s3')).same (s4.trans s4')).same (s5.trans s6), (hz2'.same (s4.trans s4')).same (s5.trans s6), hz3'.same (s5.trans s6), hz4.same s6, J1, J2', J3', J4⟩
abbrev sHyb : Stmt := topS 71
theorem scHyb : FnScope nFour ["chain"] (defScope sHyb) := ⟨rfl, rfl, rfl, by decide +kernel, rfl, by decide +kernel, by decide +kernel⟩
theorem ok_hybrids (D : Df K mg "hybrids" sHyb ["chain"]) (hZ : Kc K mg "ZERO" ([], [1])) (Go : Ok P w K mg base 37 "over_of" ["one", "other"] (spOp K cN (· / ·))) (Gb : Ok P w K mg base 36 "back_of" ["one"] (spBackOf K)) (Gm : Ok P w K mg base 37 "measure" ["chain"] (spMeasure K))
    (Gn : Ok P w K mg base 37 "negative" ["one"] (spNeg K)) : Ok P w K mg base 38 "hybrids" ["chain"] (spFour K gD hP hQ hR hT) := by
  refine D.ok (k := 37) scHyb spFour_len fun f cdv A outer s H vs Q E hr h => ?_
  obtain ⟨v, a, b, c, d, rfl, hv, PL, k0, k1⟩ := h
  obtain ⟨t, u1, u2, u3, u4, f1, f2, f3, f4, rfl, hT, h1, h2, h3, h4, I1, I2, I3, I4⟩ := id hv
  have S := PL.s
  refine ⟨_, pss_cons (ps_asg (pv 0) (pg_tup rfl (pgs_cons (pg_name (i := 1) scHyb.nd rfl (.inl rfl)) (pgs_cons (pg_name (i := 2) scHyb.nd rfl (.inl rfl)) (pgs_cons (pg_name (i := 3) scHyb.nd rfl (.inl rfl)) (pgs_cons (pg_name (i := 4) scHyb.nd rfl (.inl rfl)) pgs_nil))))))
    (pss_cons (ps_if (pt_cmpR (op_eqD hr.units) (pv 4) (pe_kc hZ (by rfl)) (nomark _)) (pss_one (ps_ret pe_non)) pss_nil)
    (pss_one (ps_ret (pe_tup (pa_cons (pc2 Go hr (by rfl) (pv 2) (pv 4)) (pa_cons (pc2 Go hr (by rfl) (pc1 Gm hr (by rfl) (pv 0)) (pv 4)) (pa_cons (pc1 Gn hr (by rfl) (pc1 Gb (hr.mono (by decide)) (by rfl) (pv 4))) (pa_cons (pc2 Go hr (by rfl) (pv 3) (pv 4)) pa_nil)))))))), ?_⟩
  refine ⟨.ref t, rfl, t, _, rfl, hT, rfl, u1, _, rfl, u2, _, rfl, u3, _, rfl, u4, [], rfl, rfl, u4, rfl, fun z hz => eq_fn h4 hz ⟨_, rfl, ite2 (fun e => ?_) (fun e => ?_)⟩⟩
  · exact k0 ((zero_iff I4).1 (of_decide_eq_true e)) _ (Same.refl H)
  have hn : f4 ≠ ([], [1]) := fun q => e (decide_eq_true q)
  have nz := (zero_iff I4).2 hn
  refine ⟨u2, rfl, u4, rfl, u2, u4, f2, f4, b, d, 3, 3, 31, 31, rfl, h2, h4, I2, I4, I2.size S.sb, I4.size S.sd, by omega, by omega, hn, fun H1 z1 k1' s1 hz1 J1 => ?_⟩
  refine ⟨.ref t, rfl, .ref t, a, b, c, d, rfl, hv.same s1, S, fun H2 zm km s2 hzm Jm => ?_⟩
  have s12 := s1.trans s2
  refine ⟨u4, rfl, zm, u4, km, f4, _, d, 4, 3, 44, 31, rfl, hzm, h4.same s12, Jm, I4, Jm.size S.m, I4.size S.sd, by omega, by omega, hn, fun H3 z2 k2' s3 hz2 J2 => ?_⟩
  have s13 := s12.trans s3
  refine ⟨u4, rfl, u4, f4, d, 3, 31, rfl, h4.same s13, I4, I4.size S.sd, by omega, by omega, hn, fun H4 z3 k3' s4 hz3 J3 zz3 => ?_⟩
  refine ⟨z3, k3', _, 3, 31, rfl, hz3, J3, zz3, by omega, by omega, fun H4' z3' k3'' s4' hz3' J3' => ?_⟩
  have s14 := (s13.trans s4).trans s4'
  refine ⟨u3, rfl, u4, rfl, u3, u4, f3, f4, c, d, 3, 3, 31, 31, rfl, h3.same s14, h4.same s14, I3, I4, I3.size S.sc, I4.size S.sd, by omega, by omega, hn, fun H5 z4 k4' s5 hz4 J4 => ⟨(by decide : 4 ≤ sizeLine), fun l nl => ?_⟩⟩
  have s6 := same_upd (o := .tup [z1, z2, z3', z4]) nl
  exact k1 nz _ _ ((s14.trans s5).trans s6) ⟨l, z1, z2, z3', z4, k1', k2', k3'', k4', rfl, .of upd_same, ((hz1.same (s2.trans s3)).same (s4.trans s4')).same (s5.trans s6), (hz2.same (s4.trans s4')).same (s5.trans s6), hz3'.same (s5.trans s6), hz4.same s6, J1, J2, J3', J4⟩
/-! ### shown, and the three for any values -/
abbrev sShown : Stmt := topS 72
theorem scShown : FnScope ["some"] ["some"] (defScope sShown) := ⟨rfl, rfl, rfl, by decide +kernel, rfl, by decide +kernel, by decide +kernel⟩
def spShown (K : PySem.W.Frag) : Sp := fun vs H Q E => (vs = [.non] ∧ Q .non H) ∨ spAllSmall K vs H Q E
theorem ok_shown (D : Df K mg "shown" sShown ["some"]) (Ga : Ok P w K mg base 2 "all_small" ["some"] (spAllSmall K)) : Ok P w K mg base 3 "shown" ["some"] (spShown K) := by
  refine D.ok (k := 2) scShown (fun vs H Q E h => by
    rcases h with ⟨rfl, _⟩ | ⟨v, a, b, c, d, d1, d2, d3, d4, b1, b2, b3, b4, rfl, _⟩ <;> rfl) fun f cdv A outer s H vs Q E hr h => ?_
  refine ⟨_, pss_one (ps_ret (pe_ifExp (pt_cmp (pc_isN (pv 0))) pe_non (pc1 Ga hr (by rfl) (pv 0)))), ?_⟩
  rcases h with ⟨rfl, q⟩ | ⟨v, a, b, c, d, d1, d2, d3, d4, b1, b2, b3, b4, rfl, hv, r⟩
  · exact ⟨.non, rfl, _, rfl, q⟩
  · obtain ⟨t, _, _, _, _, _, _, _, _, rfl, _⟩ := id hv
    exact ⟨.ref t, rfl, _, rfl, .ref t, rfl, .ref t, a, b, c, d, d1, d2, d3, d4, b1, b2, b3, b4, rfl, hv, r⟩
theorem sc1 (st : Stmt) (h1 : (defScope st).kind = .function) (h2 : (defScope st).isCoroutine = false) (h3 : (defScope st).isGenerator = false) (h4 : ∀ x ∈ (["chain"] : List Str), (defScope st).names.lookup x = some .local ∨ (defScope st).names.lookup x = some .cell) (h5 : ∀ y ∈ (defScope st).names, y.2 ≠ .free) :
    FnScope ["chain"] ["chain"] (defScope st) := ⟨h1, h2, h3, by decide +kernel, rfl, h4, h5⟩
abbrev sImpOf : Stmt := topS 73
theorem scImpOf : FnScope ["chain"] ["chain"] (defScope sImpOf) := sc1 _ rfl rfl rfl (by decide +kernel) (by decide +kernel)
abbrev sAdmOf : Stmt := topS 74
theorem scAdmOf : FnScope ["chain"] ["chain"] (defScope sAdmOf) := sc1 _ rfl rfl rfl (by decide +kernel) (by decide +kernel)
abbrev sHybOf : Stmt := topS 75
theorem scHybOf : FnScope ["chain"] ["chain"] (defScope sHybOf) := sc1 _ rfl rfl rfl (by decide +kernel) (by decide +kernel)
theorem four_rd {N A1 A2 A3 A4 : G4} {v : V} {a b c d : Int → Rat} {H : Hp} {D : Ends} (hv : ChV K H v a b c d) (PL : Plan a b c d) (k0 : (Evt fun x => N a b c d x = 0) → ∀ H', Same H H' → D.rt .non H')
    (k1 : Nz (N a b c d) → ∀ H' z, Same H H' → ChV K H' z (A1 a b c d) (A2 a b c d) (A3 a b c d) (A4 a b c d) → D.rt z H')
    (sz : Nz (N a b c d) → ∃ d1 d2 d3 d4 b1 b2 b3 b4, Sb (A1 a b c d) d1 b1 ∧ Sb (A2 a b c d) d2 b2 ∧ Sb (A3 a b c d) d3 b3 ∧ Sb (A4 a b c d) d4 b4 ∧ d1 ≤ 12 ∧ d2 ≤ 12 ∧ d3 ≤ 12 ∧ d4 ≤ 12) :
    tSeq (tDrop (t1 (fun vs H Q => spNeedChain K vs H Q E0) (tVar 0))) (tRet (t1 (fun vs H Q => spShown K vs H Q E0) (t1 (fun vs H Q => spFour K N A1 A2 A3 A4 vs H Q E0) (tVar 0)))) D [some v] H := by
  refine ⟨v, rfl, v, a, b, c, d, rfl, hv, PL.s, PL.ne, fun H1 s1 => ⟨v, rfl, v, a, b, c, d, rfl, hv.same s1, PL, fun e H2 s2 => .inl ⟨rfl, k0 e _ (s1.trans s2)⟩, fun e H2 z s2 hz => .inr ?_⟩⟩
  obtain ⟨d1, d2, d3, d4, b1, b2, b3, b4, S1, S2, S3, S4, l1, l2, l3, l4⟩ := sz e
  exact ⟨z, _, _, _, _, d1, d2, d3, d4, b1, b2, b3, b4, rfl, hz, S1, S2, S3, S4, l1, l2, l3, l4, fun H3 z3 s3 hz3 => k1 e _ _ ((s1.trans s2).trans s3) hz3⟩
/-- sizes of a reciprocal -/
theorem sb_inv {r : Int → Rat} {d b : Nat} (h : Sb r d b) (n : Nz r) : Sb (fun x => 1 / r x) d b := by
  obtain ⟨A, Q, B, R, h1, h2, h3⟩ := h
  refine ⟨Q, A, B, (R.and n).mono fun x hx => ?_, h2, h1, h3⟩
  obtain ⟨⟨q1, q2⟩, q3⟩ := hx
  have : er A x ≠ 0 := fun e => by
    rw [e] at q2
    rcases Rat.mul_eq_zero.mp q2 with z | z
    · exact q3 z
    · exact q1 z
  refine ⟨this, ?_⟩
  grind
theorem ok_impedances_of (D : Df K mg "impedances_of" sImpOf ["chain"]) (Gn : Ok P w K mg base 38 "need_chain" ["value"] (spNeedChain K)) (Gs : Ok P w K mg base 3 "shown" ["some"] (spShown K)) (Gi : Ok P w K mg base 38 "impedances" ["chain"] (spFour K gC iP iQ iR iT)) :
    Ok P w K mg base 39 "impedances_of" ["chain"] (spFour K gC iP iQ iR iT) := by
  refine D.ok (k := 38) scImpOf spFour_len fun f cdv A outer s H vs Q E hr h => ?_
  obtain ⟨v, a, b, c, d, rfl, hv, PL, k0, k1⟩ := h
  exact ⟨_, pss_cons (ps_expr (pc1 Gn hr (by rfl) (pv 0))) (pss_one (ps_ret (pc1 Gs (hr.mono (by decide)) (by rfl) (pc1 Gi hr (by rfl) (pv 0))))), four_rd hv PL k0 k1 fun e => ⟨3, 4, 3, 3, 31, 44, 31, 31, (PL.pc e).ac, (PL.pc e).mc, sb_inv PL.s.sc e, (PL.pc e).dc, by omega, by omega, by omega, by omega⟩⟩
theorem ok_admittances_of (D : Df K mg "admittances_of" sAdmOf ["chain"]) (Gn : Ok P w K mg base 38 "need_chain" ["value"] (spNeedChain K)) (Gs : Ok P w K mg base 3 "shown" ["some"] (spShown K)) (Gi : Ok P w K mg base 38 "admittances" ["chain"] (spFour K gB aP aQ aR aT)) :
    Ok P w K mg base 39 "admittances_of" ["chain"] (spFour K gB aP aQ aR aT) := by
  refine D.ok (k := 38) scAdmOf spFour_len fun f cdv A outer s H vs Q E hr h => ?_
  obtain ⟨v, a, b, c, d, rfl, hv, PL, k0, k1⟩ := h
  exact ⟨_, pss_cons (ps_expr (pc1 Gn hr (by rfl) (pv 0))) (pss_one (ps_ret (pc1 Gs (hr.mono (by decide)) (by rfl) (pc1 Gi hr (by rfl) (pv 0))))), four_rd hv PL k0 k1 fun e => ⟨3, 4, 3, 3, 31, 44, 31, 31, (PL.pb e).db, (PL.pb e).mb.neg, (sb_inv PL.s.sb e).neg, (PL.pb e).ab, by omega, by omega, by omega, by omega⟩⟩
theorem ok_hybrids_of (D : Df K mg "hybrids_of" sHybOf ["chain"]) (Gn : Ok P w K mg base 38 "need_chain" ["value"] (spNeedChain K)) (Gs : Ok P w K mg base 3 "shown" ["some"] (spShown K)) (Gi : Ok P w K mg base 38 "hybrids" ["chain"] (spFour K gD hP hQ hR hT)) :
    Ok P w K mg base 39 "hybrids_of" ["chain"] (spFour K gD hP hQ hR hT) := by
  refine D.ok (k := 38) scHybOf spFour_len fun f cdv A outer s H vs Q E hr h => ?_
  obtain ⟨v, a, b, c, d, rfl, hv, PL, k0, k1⟩ := h
  exact ⟨_, pss_cons (ps_expr (pc1 Gn hr (by rfl) (pv 0))) (pss_one (ps_ret (pc1 Gs (hr.mono (by decide)) (by rfl) (pc1 Gi hr (by rfl) (pv 0))))), four_rd hv PL k0 k1 fun e => ⟨3, 4, 3, 3, 31, 44, 31, 31, (PL.pd e).bd, (PL.pd e).md, (sb_inv PL.s.sd e).neg, (PL.pd e).cd, by omega, by omega, by omega, by omega⟩⟩
end
end CN
end
section
set_option Elab.async false
set_option linter.all false
set_option maxRecDepth 100000
set_option maxHeartbeats 4000000
namespace CN
open PySem PySem.Spec PyProof.Rows L2 PQ
theorem nz_inv {r : Int → Rat} (h : Nz r) : Nz fun x => 1 / r x := h.mono fun x hx => by grind
theorem nz_neg {r : Int → Rat} (h : Nz r) : Nz fun x => 0 - r x := h.mono fun x hx => by grind
section
variable {P : Program} {w : World} {K : PySem.W.Frag} {mg : Str → Option Value} {base : Heap}
abbrev sNeedFour : Stmt := topS 76
theorem scNeedFour : FnScope nNeedChain ["value"] (defScope sNeedFour) := ⟨rfl, rfl, rfl, by decide +kernel, rfl, by decide +kernel, by decide +kernel⟩
def spNeedFour (K : PySem.W.Frag) : Sp := fun vs H Q _ => ∃ (v : V) (a b c d : Int → Rat) (d1 d2 d3 d4 b1 b2 b3 b4 : Nat), vs = [v] ∧ ChV K H v a b c d ∧ Sb a d1 b1 ∧ Sb b d2 b2 ∧ Sb c d3 b3 ∧ Sb d d4 b4 ∧ (d1 ≤ 12 ∧ d2 ≤ 12 ∧ d3 ≤ 12 ∧ d4 ≤ 12) ∧ (b1 ≤ 190 ∧ b2 ≤ 190 ∧ b3 ≤ 190 ∧ b4 ≤ 190) ∧
  ∀ H', Same H H' → Q .non H'
theorem ok_need_four (D : Df K mg "need_four" sNeedFour ["value"]) (B : Bi mg) (Gi : Ok P w K mg base 36 "is_function" ["value"] (spIsFn K)) : Ok P w K mg base 37 "need_four" ["value"] (spNeedFour K) := by
  refine D.ok (k := 36) scNeedFour (fun vs H Q E h => by obtain ⟨v, a, b, c, d, d1, d2, d3, d4, b1, b2, b3, b4, rfl, _⟩ := h; rfl) fun f cdv A outer s H vs Q E hr h => ?_
  obtain ⟨v, a, b, c, d, d1, d2, d3, d4, b1, b2, b3, b4, rfl, ⟨t, u1, u2, u3, u4, f1, f2, f3, f4, rfl, hT, h1, h2, h3, h4, I1, I2, I3, I4⟩, S1, S2, S3, S4, ⟨l1, l2, l3, l4⟩, ⟨m1, m2, m3, m4⟩, k⟩ := h
  refine ⟨_, pss_cons (ps_if (PW.pt (pw_or (pt_not (pt_val (pisi B.isinstance B.tuple bt_tuple (by rfl) (by rfl) (pv 0)))) (pw_or1 (pt_cmpR op_ne (pb1 call_len_seq B.len bt_len (by rfl) (pv 0)) pe_int (nomark _))))) (pss_one ps_never) pss_nil)
    (pss_one (ps_for PassesOwn.never rfl (pi_enumT (by rfl) B.enumerate (pa_cons (pv 0) pa_nil)) (pg_tup rfl (pgs_cons (pg_name (i := 1) scNeedFour.nd rfl (.inl rfl)) (pgs_cons (pg_name (i := 2) scNeedFour.nd rfl (.inl rfl)) pgs_nil)))
      (pss_one (ps_if (pt_not (pt_val (pc1 Gi hr (by rfl) (pv 2)))) (pss_one ps_never) pss_nil)))), ?_⟩
  refine ⟨.ref t, rfl, isi_tup hT ⟨true, rfl, iteF ⟨.ref t, rfl, t, _, rfl, .inr hT, rfl, _, rfl, iteF ⟨.ref t, rfl, t, _, rfl, hT, ?_⟩⟩⟩⟩
  have all : ∀ u ∈ [u1, u2, u3, u4], ∃ f : Fn, Fv K H u f ∧ Fok f := fun u hu => by
    simp only [List.mem_cons, List.not_mem_nil, or_false] at hu
    rcases hu with rfl | rfl | rfl | rfl
    · exact ⟨f1, h1, fok_of I1 S1 l1 m1⟩
    · exact ⟨f2, h2, fok_of I2 S2 l2 m2⟩
    · exact ⟨f3, h3, fok_of I3 S3 l3 m3⟩
    · exact ⟨f4, h4, fok_of I4 S4 l4 m4⟩
  refine for_enumT (fun i σ H' => (∃ y1 y2, σ = [some (.ref t), y1, y2]) ∧ Same H H') ⟨⟨_, _, rfl⟩, Same.refl H⟩ (fun i σ H' z => same_sqT z.2 hT) (fun i u T σ H' hu z nT => ?_) fun σ H' z => ?_
  · obtain ⟨⟨y1, y2, rfl⟩, z1⟩ := z
    obtain ⟨g, hg, og⟩ := all u (List.mem_of_getElem? hu)
    have s2 := z1.trans (same_upd (o := .tup [.int (i : Nat), u]) nT)
    exact ⟨T, _, rfl, .of upd_same, rfl, _, _, rfl, _, _, rfl, rfl, u, rfl, u, g, rfl, hg.same s2, og, fun H2 s3 => ⟨true, rfl, iteF ⟨⟨_, _, rfl⟩, s2.trans s3⟩⟩⟩
  · exact k _ z.2
abbrev sGood : Stmt := topS 77
theorem scGood : FnScope ["chain"] ["chain"] (defScope sGood) := sc1 _ rfl rfl rfl (by decide +kernel) (by decide +kernel)
def spGood (K : PySem.W.Frag) : Sp := fun vs H Q _ => ∃ (v : V) (a b c d : Int → Rat), vs = [v] ∧ ChV K H v a b c d ∧ Base4 a b c d ∧ Nz (gm a b c d) ∧ ∀ H' z, Same H H' → ChV K H' z a b c d → Q z H'
theorem ok_good_chain (D : Df K mg "good_chain" sGood ["chain"]) (hZ : Kc K mg "ZERO" ([], [1])) (Gm : Ok P w K mg base 37 "measure" ["chain"] (spMeasure K)) (Ga : Ok P w K mg base 2 "all_small" ["some"] (spAllSmall K)) : Ok P w K mg base 38 "good_chain" ["chain"] (spGood K) := by
  refine D.ok (k := 37) scGood (fun vs H Q E h => by obtain ⟨v, a, b, c, d, rfl, _⟩ := h; rfl) fun f cdv A outer s H vs Q E hr h => ?_
  obtain ⟨v, a, b, c, d, rfl, hv, S, hm, k⟩ := h
  refine ⟨_, pss_cons (ps_if (pt_cmpR (op_eqD hr.units) (pc1 Gm hr (by rfl) (pv 0)) (pe_kc hZ (by rfl)) (nomark _)) (pss_one ps_never) pss_nil) (pss_one (ps_ret (pc1 Ga (hr.mono (by decide)) (by rfl) (pv 0)))), ?_⟩
  refine ⟨v, rfl, v, a, b, c, d, rfl, hv, S, fun H2 z g s2 hz Ig => fun zr hzr => eq_fn hz hzr ⟨_, rfl, ?_⟩⟩
  rw [decide_eq_false (fun e => nz_not hm ((zero_iff Ig).1 e))]
  exact iteF ⟨v, rfl, v, a, b, c, d, 3, 3, 3, 3, 31, 31, 31, 31, rfl, hv.same s2, S.sa, S.sb, S.sc, S.sd, by omega, by omega, by omega, by omega, fun H3 z3 s3 hz3 => k _ _ (s2.trans s3) hz3⟩
/-! ### from impedances -/
abbrev sChainOf : Stmt := topS 66
theorem scChainOf : FnScope ["p", "q", "r", "t"] ["p", "q", "r", "t"] (defScope sChainOf) := ⟨rfl, rfl, rfl, by decide +kernel, rfl, by decide +kernel, by decide +kernel⟩
def spChainOf (K : PySem.W.Frag) : Sp := fun vs H Q _ => ∃ (v1 v2 v3 v4 : V) (f1 f2 f3 f4 : Fn) (a b c d : Int → Rat), vs = [v1, v2, v3, v4] ∧ Fv K H v1 f1 ∧ Fv K H v2 f2 ∧ Fv K H v3 f3 ∧ Fv K H v4 f4 ∧
  Is f1 (iP a b c d) ∧ Is f2 (iQ a b c d) ∧ Is f3 (iR a b c d) ∧ Is f4 (iT a b c d) ∧ Plan a b c d ∧ Nz c ∧ ∀ H' z, Same H H' → ChV K H' z a b c d → Q z H'
theorem ok_chain_of (D : Df K mg "chain_of" sChainOf ["p", "q", "r", "t"]) (Go : Ok P w K mg base 37 "over_of" ["one", "other"] (spOp K cN (· / ·))) (Gb : Ok P w K mg base 36 "back_of" ["one"] (spBackOf K)) (Gt : Ok P w K mg base 36 "times_of" ["one", "other"] (spOp K cT (· * ·)))
    (Gm : Ok P w K mg base 36 "minus_of" ["one", "other"] (spOp K cT (· - ·))) : Ok P w K mg base 38 "chain_of" ["p", "q", "r", "t"] (spChainOf K) := by
  refine D.ok (k := 37) scChainOf (fun vs H Q E h => by obtain ⟨v1, v2, v3, v4, f1, f2, f3, f4, a, b, c, d, rfl, _⟩ := h; rfl) fun f cdv A outer s H vs Q E hr h => ?_
  obtain ⟨v1, v2, v3, v4, f1, f2, f3, f4, a, b, c, d, rfl, h1, h2, h3, h4, I1, I2, I3, I4, PL, nz, k⟩ := h
  have pc := PL.pc nz
  have z1 := I1.size pc.ac
  have z2 := I2.size pc.mc
  have z3 := I3.size (sb_inv PL.s.sc nz)
  have z4 := I4.size pc.dc
  have n3 : f3 ≠ ([], [1]) := I3.ne_of (nz_inv nz)
  refine ⟨_, pss_one (ps_ret (pe_tup (pa_cons (pc2 Go hr (by rfl) (pv 0) (pv 2)) (pa_cons (pc2 Go hr (by rfl) (pc2 Gm (hr.mono (by decide)) (by rfl) (pc2 Gt (hr.mono (by decide)) (by rfl) (pv 0) (pv 3)) (pc2 Gt (hr.mono (by decide)) (by rfl) (pv 1) (pv 2))) (pv 2))
    (pa_cons (pc1 Gb (hr.mono (by decide)) (by rfl) (pv 2)) (pa_cons (pc2 Go hr (by rfl) (pv 3) (pv 2)) pa_nil)))))), ?_⟩
  refine ⟨v1, rfl, v3, rfl, v1, v3, f1, f3, _, _, 3, 3, 31, 31, rfl, h1, h3, I1, I3, z1, z3, by omega, by omega, n3, fun H1 x1 k1 s1 hx1 J1 => ?_⟩
  refine ⟨v1, rfl, v4, rfl, v1, v4, f1, f4, _, _, 3, 3, 31, 31, rfl, h1.same s1, h4.same s1, I1, I4, z1, z4, by omega, by omega, trivial, fun H2 x2 k2 s2 hx2 J2 => ?_⟩
  have s12 := s1.trans s2
  refine ⟨v2, rfl, v3, rfl, v2, v3, f2, f3, _, _, 4, 3, 44, 31, rfl, h2.same s12, h3.same s12, I2, I3, z2, z3, by omega, by omega, trivial, fun H3 x3 k3 s3 hx3 J3 => ?_⟩
  have s13 := s12.trans s3
  refine ⟨x2, x3, k2, k3, _, _, 6, 6, 71, 71, rfl, hx2.same s3, hx3, J2, J3, J2.size pc.adc, J3.size pc.mcc, by omega, by omega, trivial, fun H4 x4 k4 s4 hx4 J4 => ?_⟩
  have s14 := s13.trans s4
  have J4' : Is k4 (fun x => b x / c x) := J4.congr (nz.mono fun x hx => by show a x / c x * (d x / c x) - (a x * d x - b x * c x) / c x * (1 / c x) = b x / c x; grind)
  refine ⟨v3, rfl, x4, v3, k4, f3, _, _, 3, 3, 31, 31, rfl, hx4, h3.same s14, J4', I3, J4'.size pc.bc, z3, by omega, by omega, n3, fun H5 x5 k5 s5 hx5 J5 => ?_⟩
  have s15 := s14.trans s5
  refine ⟨v3, rfl, v3, f3, _, 3, 31, rfl, h3.same s15, I3, z3, by omega, by omega, n3, fun H6 x6 k6 s6 hx6 J6 _ => ?_⟩
  have s16 := s15.trans s6
  refine ⟨v4, rfl, v3, rfl, v4, v3, f4, f3, _, _, 3, 3, 31, 31, rfl, h4.same s16, h3.same s16, I4, I3, z4, z3, by omega, by omega, n3, fun H7 x7 k7 s7 hx7 J7 => ⟨(by decide : 4 ≤ sizeLine), fun l nl => ?_⟩⟩
  have s8 := same_upd (o := .tup [x1, x5, x6, x7]) nl
  refine k _ _ ((s16.trans s7).trans s8) ⟨l, x1, x5, x6, x7, k1, k5, k6, k7, rfl, .of upd_same, hx1.same (((((s2.trans s3).trans s4).trans s5).trans s6).trans (s7.trans s8)), hx5.same (s6.trans (s7.trans s8)), hx6.same (s7.trans s8), hx7.same s8, ?_, ?_, ?_, ?_⟩
  · exact J1.congr (nz.mono fun x hx => by show a x / c x / (1 / c x) = a x; grind)
  · exact J5.congr (nz.mono fun x hx => by show b x / c x / (1 / c x) = b x; grind)
  · exact J6.congr (nz.mono fun x hx => by show 1 / (1 / c x) = c x; grind)
  · exact J7.congr (nz.mono fun x hx => by show d x / c x / (1 / c x) = d x; grind)
theorem sc4 (st : Stmt) (h1 : (defScope st).kind = .function) (h2 : (defScope st).isCoroutine = false) (h3 : (defScope st).isGenerator = false) (h4 : ∀ x ∈ (["four"] : List Str), (defScope st).names.lookup x = some .local ∨ (defScope st).names.lookup x = some .cell) (h5 : ∀ y ∈ (defScope st).names, y.2 ≠ .free) :
    FnScope ["four"] ["four"] (defScope st) := ⟨h1, h2, h3, by decide +kernel, rfl, h4, h5⟩
/-- back to the chain -/
def spFrom (K : PySem.W.Frag) (N A1 A2 A3 A4 : G4) : Sp := fun vs H Q _ => ∃ (v : V) (a b c d : Int → Rat), vs = [v] ∧ ChV K H v (A1 a b c d) (A2 a b c d) (A3 a b c d) (A4 a b c d) ∧ Plan a b c d ∧ Nz (N a b c d) ∧ ∀ H' z, Same H H' → ChV K H' z a b c d → Q z H'
theorem spFrom_len {N A1 A2 A3 A4 : G4} (vs : List V) (H : Hp) (Q : VK) (E : XK) (h : spFrom K N A1 A2 A3 A4 vs H Q E) : vs.length = 1 := by obtain ⟨v, a, b, c, d, rfl, _⟩ := h; rfl
abbrev sByImp : Stmt := topS 78
theorem scByImp : FnScope ["four"] ["four"] (defScope sByImp) := sc4 _ rfl rfl rfl (by decide +kernel) (by decide +kernel)
theorem ok_by_imp (D : Df K mg "chain_by_impedances" sByImp ["four"]) (hZ : Kc K mg "ZERO" ([], [1])) (Gg : Ok P w K mg base 38 "good_chain" ["chain"] (spGood K)) (Gc : Ok P w K mg base 38 "chain_of" ["p", "q", "r", "t"] (spChainOf K)) : Ok P w K mg base 39 "chain_by_impedances" ["four"] (spFrom K gC iP iQ iR iT) := by
  refine D.ok (k := 38) scByImp spFrom_len fun f cdv A outer s H vs Q E hr h => ?_
  obtain ⟨v, a, b, c, d, rfl, ⟨t, u1, u2, u3, u4, f1, f2, f3, f4, rfl, hT, h1, h2, h3, h4, I1, I2, I3, I4⟩, PL, nz, k⟩ := h
  refine ⟨_, pss_cons (ps_if (pt_cmpR (op_eqD hr.units) (pe_ix ix_tup (pv 0) pe_int (fun _ _ => rfl)) (pe_kc hZ (by rfl)) (nomark _)) (pss_one ps_never) pss_nil)
    (pss_one (ps_ret (pc1 Gg hr (by rfl) (pc4 Gc hr (by rfl) (pe_ix ix_tup (pv 0) pe_int (fun _ _ => rfl)) (pe_ix ix_tup (pv 0) pe_int (fun _ _ => rfl)) (pe_ix ix_tup (pv 0) pe_int (fun _ _ => rfl)) (pe_ix ix_tup (pv 0) pe_int (fun _ _ => rfl)))))), ?_⟩
  refine ⟨.ref t, rfl, t, _, 2, u3, rfl, rfl, hT, atI_nat (j := 2) rfl, fun zr hzr => eq_fn h3 hzr ⟨_, rfl, ?_⟩⟩
  rw [decide_eq_false (I3.ne_of (nz_inv nz))]
  refine iteF ⟨.ref t, rfl, t, _, 0, u1, rfl, rfl, hT, atI_nat (j := 0) rfl, .ref t, rfl, t, _, 1, u2, rfl, rfl, hT, atI_nat (j := 1) rfl, .ref t, rfl, t, _, 2, u3, rfl, rfl, hT, atI_nat (j := 2) rfl, .ref t, rfl, t, _, 3, u4, rfl, rfl, hT, atI_nat (j := 3) rfl, ?_⟩
  refine ⟨u1, u2, u3, u4, f1, f2, f3, f4, a, b, c, d, rfl, h1, h2, h3, h4, I1, I2, I3, I4, PL, nz, fun H1 z s1 hz => ⟨z, a, b, c, d, rfl, hz, PL.s, PL.ne, fun H2 z2 s2 hz2 => k _ _ (s1.trans s2) hz2⟩⟩
abbrev sFromImp : Stmt := topS 80
theorem scFromImp : FnScope ["four"] ["four"] (defScope sFromImp) := sc4 _ rfl rfl rfl (by decide +kernel) (by decide +kernel)
theorem ok_from_imp (D : Df K mg "from_impedances" sFromImp ["four"]) (Gn : Ok P w K mg base 37 "need_four" ["value"] (spNeedFour K)) (Gb : Ok P w K mg base 39 "chain_by_impedances" ["four"] (spFrom K gC iP iQ iR iT)) : Ok P w K mg base 40 "from_impedances" ["four"] (spFrom K gC iP iQ iR iT) := by
  refine D.ok (k := 39) scFromImp spFrom_len fun f cdv A outer s H vs Q E hr h => ?_
  obtain ⟨v, a, b, c, d, rfl, hv, PL, nz, k⟩ := h
  refine ⟨_, pss_cons (ps_expr (pc1 Gn (hr.mono (by decide)) (by rfl) (pv 0))) (pss_one (ps_ret (pc1 Gb hr (by rfl) (pv 0)))), ?_⟩
  have pc := PL.pc nz
  exact ⟨v, rfl, v, _, _, _, _, 3, 4, 3, 3, 31, 44, 31, 31, rfl, hv, pc.ac, pc.mc, sb_inv PL.s.sc nz, pc.dc, ⟨by omega, by omega, by omega, by omega⟩, ⟨by omega, by omega, by omega, by omega⟩, fun H1 s1 => ⟨v, rfl, v, a, b, c, d, rfl, hv.same s1, PL, nz, fun H2 z s2 hz => k _ _ (s1.trans s2) hz⟩⟩
/-! ### from admittances -/
abbrev sByAdm : Stmt := topS 79
abbrev nByAdm : List Str := ["four", "p", "q", "r", "t", "whole", "back"]
theorem scByAdm : FnScope nByAdm ["four"] (defScope sByAdm) := ⟨rfl, rfl, rfl, by decide +kernel, rfl, by decide +kernel, by decide +kernel⟩
theorem ok_by_adm (D : Df K mg "chain_by_admittances" sByAdm ["four"]) (hZ : Kc K mg "ZERO" ([], [1])) (Gg : Ok P w K mg base 38 "good_chain" ["chain"] (spGood K)) (Gb : Ok P w K mg base 36 "back_of" ["one"] (spBackOf K)) (Gt : Ok P w K mg base 36 "times_of" ["one", "other"] (spOp K cT (· * ·)))
    (Gm : Ok P w K mg base 36 "minus_of" ["one", "other"] (spOp K cT (· - ·))) (Gn : Ok P w K mg base 37 "negative" ["one"] (spNeg K)) : Ok P w K mg base 39 "chain_by_admittances" ["four"] (spFrom K gB aP aQ aR aT) := by
  refine D.ok (k := 38) scByAdm spFrom_len fun f cdv A outer s H vs Q E hr h => ?_
  obtain ⟨v, a, b, c, d, rfl, ⟨t, u1, u2, u3, u4, f1, f2, f3, f4, rfl, hT, h1, h2, h3, h4, I1, I2, I3, I4⟩, PL, nz, k⟩ := h
  have pb := PL.pb nz
  have z1 := I1.size pb.db
  have z2 := I2.size pb.mb.neg
  have z3 := I3.size (sb_inv PL.s.sb nz).neg
  have z4 := I4.size pb.ab
  have n3 : f3 ≠ ([], [1]) := I3.ne_of (nz_neg (nz_inv nz))
  refine ⟨_, pss_cons (ps_asg (pv 0) (pg_tup rfl (pgs_cons (pg_name (i := 1) scByAdm.nd rfl (.inl rfl)) (pgs_cons (pg_name (i := 2) scByAdm.nd rfl (.inl rfl)) (pgs_cons (pg_name (i := 3) scByAdm.nd rfl (.inl rfl)) (pgs_cons (pg_name (i := 4) scByAdm.nd rfl (.inl rfl)) pgs_nil))))))
    (pss_cons (ps_if (pt_cmpR (op_eqD hr.units) (pv 3) (pe_kc hZ (by rfl)) (nomark _)) (pss_one ps_never) pss_nil)
    (pss_cons (ps_set (i := 5) scByAdm.nd rfl (.inl rfl) (pc2 Gm (hr.mono (by decide)) (by rfl) (pc2 Gt (hr.mono (by decide)) (by rfl) (pv 1) (pv 4)) (pc2 Gt (hr.mono (by decide)) (by rfl) (pv 2) (pv 3))))
    (pss_cons (ps_set (i := 6) scByAdm.nd rfl (.inl rfl) (pc1 Gn (hr.mono (by decide)) (by rfl) (pc1 Gb (hr.mono (by decide)) (by rfl) (pv 3))))
    (pss_one (ps_ret (pc1 Gg hr (by rfl) (pe_tup (pa_cons (pc2 Gt (hr.mono (by decide)) (by rfl) (pv 4) (pv 6)) (pa_cons (pv 6) (pa_cons (pc2 Gt (hr.mono (by decide)) (by rfl) (pv 5) (pv 6)) (pa_cons (pc2 Gt (hr.mono (by decide)) (by rfl) (pv 1) (pv 6)) pa_nil))))))))))), ?_⟩
  refine ⟨.ref t, rfl, t, _, rfl, hT, rfl, u1, _, rfl, u2, _, rfl, u3, _, rfl, u4, [], rfl, rfl, u3, rfl, fun zr hzr => eq_fn h3 hzr ⟨_, rfl, ?_⟩⟩
  rw [decide_eq_false n3]
  refine iteF ⟨u1, rfl, u4, rfl, u1, u4, f1, f4, _, _, 3, 3, 31, 31, rfl, h1, h4, I1, I4, z1, z4, by omega, by omega, trivial, fun H1 x1 k1 s1 hx1 J1 => ?_⟩
  refine ⟨u2, rfl, u3, rfl, u2, u3, f2, f3, _, _, 4, 3, 44, 31, rfl, h2.same s1, h3.same s1, I2, I3, z2, z3, by omega, by omega, trivial, fun H2 x2 k2 s2 hx2 J2 => ?_⟩
  have s12 := s1.trans s2
  have J2' : Is k2 (fun x => gm a b c d x / b x * (1 / b x)) := J2.congr (.all fun x => by show (0 - gm a b c d x / b x) * (0 - 1 / b x) = gm a b c d x / b x * (1 / b x); grind)
  refine ⟨x1, x2, k1, k2, _, _, 6, 6, 71, 71, rfl, hx1.same s2, hx2, J1, J2', J1.size pb.dab, J2'.size pb.mbb, by omega, by omega, trivial, fun H3 x3 k3 s3 hx3 J3 => ?_⟩
  have s13 := s12.trans s3
  have J3' : Is k3 (fun x => c x / b x) := J3.congr (nz.mono fun x hx => by show d x / b x * (a x / b x) - (a x * d x - b x * c x) / b x * (1 / b x) = c x / b x; grind)
  refine ⟨u3, rfl, u3, f3, _, 3, 31, rfl, h3.same s13, I3, z3, by omega, by omega, n3, fun H4 x4 k4 s4 hx4 J4 z4' => ?_⟩
  refine ⟨x4, k4, _, 3, 31, rfl, hx4, J4, z4', by omega, by omega, fun H5 x5 k5 s5 hx5 J5 => ?_⟩
  have s15 := (s13.trans s4).trans s5
  have J5' : Is k5 b := J5.congr (nz.mono fun x hx => by show 0 - 1 / (0 - 1 / b x) = b x; grind)
  have z5 := J5'.size PL.s.sb
  refine ⟨u4, rfl, x5, rfl, u4, x5, f4, k5, _, _, 3, 3, 31, 31, rfl, h4.same s15, hx5, I4, J5', z4, z5, by omega, by omega, trivial, fun H6 x6 k6 s6 hx6 J6 => ?_⟩
  have s16 := s15.trans s6
  refine ⟨x5, rfl, x3, rfl, x5, rfl, x3, x5, k3, k5, _, _, 3, 3, 31, 31, rfl, hx3.same ((s4.trans s5).trans s6), hx5.same s6, J3', J5', J3'.size pb.cb, z5, by omega, by omega, trivial, fun H7 x7 k7 s7 hx7 J7 => ?_⟩
  have s17 := s16.trans s7
  refine ⟨u1, rfl, x5, rfl, u1, x5, f1, k5, _, _, 3, 3, 31, 31, rfl, h1.same s17, hx5.same (s6.trans s7), I1, J5', z1, z5, by omega, by omega, trivial, fun H8 x8 k8 s8 hx8 J8 => ⟨(by decide : 4 ≤ sizeLine), fun l nl => ?_⟩⟩
  have s9 := same_upd (o := .tup [x6, x5, x7, x8]) nl
  refine ⟨.ref l, a, b, c, d, rfl, ⟨l, x6, x5, x7, x8, k6, k5, k7, k8, rfl, .of upd_same, hx6.same ((s7.trans s8).trans s9), hx5.same (((s6.trans s7).trans s8).trans s9), hx7.same (s8.trans s9), hx8.same s9, ?_, J5', ?_, ?_⟩, PL.s, PL.ne, fun H9 z s10 hz => k _ _ (((s17.trans s8).trans s9).trans s10) hz⟩
  · exact J6.congr (nz.mono fun x hx => by show a x / b x * b x = a x; grind)
  · exact J7.congr (nz.mono fun x hx => by show c x / b x * b x = c x; grind)
  · exact J8.congr (nz.mono fun x hx => by show d x / b x * b x = d x; grind)
abbrev sFromAdm : Stmt := topS 81
theorem scFromAdm : FnScope ["four"] ["four"] (defScope sFromAdm) := sc4 _ rfl rfl rfl (by decide +kernel) (by decide +kernel)
theorem ok_from_adm (D : Df K mg "from_admittances" sFromAdm ["four"]) (Gn : Ok P w K mg base 37 "need_four" ["value"] (spNeedFour K)) (Gb : Ok P w K mg base 39 "chain_by_admittances" ["four"] (spFrom K gB aP aQ aR aT)) : Ok P w K mg base 40 "from_admittances" ["four"] (spFrom K gB aP aQ aR aT) := by
  refine D.ok (k := 39) scFromAdm spFrom_len fun f cdv A outer s H vs Q E hr h => ?_
  obtain ⟨v, a, b, c, d, rfl, hv, PL, nz, k⟩ := h
  refine ⟨_, pss_cons (ps_expr (pc1 Gn (hr.mono (by decide)) (by rfl) (pv 0))) (pss_one (ps_ret (pc1 Gb hr (by rfl) (pv 0)))), ?_⟩
  have pb := PL.pb nz
  exact ⟨v, rfl, v, _, _, _, _, 3, 4, 3, 3, 31, 44, 31, 31, rfl, hv, pb.db, pb.mb.neg, (sb_inv PL.s.sb nz).neg, pb.ab, ⟨by omega, by omega, by omega, by omega⟩, ⟨by omega, by omega, by omega, by omega⟩, fun H1 s1 => ⟨v, rfl, v, a, b, c, d, rfl, hv.same s1, PL, nz, fun H2 z s2 hz => k _ _ (s1.trans s2) hz⟩⟩
end
end CN
end
section
set_option Elab.async false
set_option linter.all false
set_option maxRecDepth 100000
set_option maxHeartbeats 4000000
namespace PQ
theorem can_ratio {t b : Int} (ht : t ≠ 0) (hb : 0 < b) (h : Nat.gcd t.natAbs b.natAbs = 1) : Can ([t], [b]) := by
  refine ⟨fun _ => by simpa using ht, fun _ => by simp; omega, by simp, by simpa using hb, ?_, [], [1], b, by omega, fun x => by simp⟩
  simpa using h
theorem is_ratio_fn {t b : Int} (ht : t ≠ 0) (hb : 0 < b) (h : Nat.gcd t.natAbs b.natAbs = 1) : Is ([t], [b]) fun _ => (t : Rat) / (b : Rat) := by
  refine ⟨can_ratio ht hb h, .all fun x => ?_⟩
  have : (b : Rat) ≠ 0 := fun e => by have := Rat.intCast_eq_zero_iff.mp e; omega
  simp only [er, ev_cons, ev_nil, Int.mul_zero, Int.add_zero]
  grind
theorem can_var : Can ([0, 1], [1]) := ⟨fun _ => by decide, fun _ => by decide, by decide, by decide, by decide, [], [1], 1, by decide, fun x => by simp⟩
theorem is_var : Is ([0, 1], [1]) fun x => (x : Rat) := ⟨can_var, .all fun x => by simp [er]⟩
theorem sz_var : Sz ([0, 1], [1]) 1 0 := ⟨by decide, by decide, by decide, by decide⟩
end PQ
namespace CN
open PySem PySem.Spec PyProof.Rows L2 PQ
/-- the kinds of rungs -/
inductive Kd where | r | l | c
def Kd.s : Kd → Str | .r => "R" | .l => "L" | .c => "C"
def Kd.g (k : Kd) (t b : Int) : Int → Rat := match k with
  | .r => fun _ => (t : Rat) / (b : Rat)
  | .l => fun x => (t : Rat) / (b : Rat) * (x : Rat)
  | .c => fun x => 1 / ((t : Rat) / (b : Rat) * (x : Rat))
/-- a drawn worth -/
structure Wt (t b : Int) : Prop where
  t0 : 1 ≤ t
  t6 : t ≤ 6
  b0 : 1 ≤ b
  b4 : b ≤ 4
  g : Nat.gcd t.natAbs b.natAbs = 1
theorem n1_small {t : Int} (h1 : 1 ≤ t) (h2 : t ≤ 6) : n1 [t] ≤ 2 ^ 3 := by simp; omega
theorem Wt.sz {t b : Int} (h : Wt t b) : Sz ([t], [b]) 0 3 := ⟨by simp, by simp, n1_small h.t0 h.t6, n1_small h.b0 (by have := h.b4; omega)⟩
theorem Wt.is {t b : Int} (h : Wt t b) : Is ([t], [b]) fun _ => (t : Rat) / (b : Rat) := is_ratio_fn (by have := h.t0; omega) (by have := h.b0; omega) h.g
theorem Wt.sl {t b : Int} (h : Wt t b) : Sb (fun x => (t : Rat) / (b : Rat) * (x : Rat)) 1 7 := by
  refine ⟨[0, t], [b], 6, .all fun x => ?_, ⟨by simp, by simp; have := h.t0; have := h.t6; omega⟩, ⟨by simp, by simp; have := h.b0; have := h.b4; omega⟩, by decide⟩
  have hb : (b : Rat) ≠ 0 := fun e => by have := Rat.intCast_eq_zero_iff.mp e; have := h.b0; omega
  refine ⟨by simpa [er] using hb, ?_⟩
  simp [er]
  grind
theorem Wt.nz {t b : Int} (h : Wt t b) : Nz fun x => (t : Rat) / (b : Rat) * (x : Rat) := (Evt.ge 1).mono fun x hx => by
  have hb : (b : Rat) ≠ 0 := fun e => by have := Rat.intCast_eq_zero_iff.mp e; have := h.b0; omega
  have ht : (t : Rat) ≠ 0 := fun e => by have := Rat.intCast_eq_zero_iff.mp e; have := h.t0; omega
  have hx : (x : Rat) ≠ 0 := fun e => by have := Rat.intCast_eq_zero_iff.mp e; omega
  grind
/-- every rung's impedance has a size, and is not 0 -/
theorem Kd.sb {t b : Int} (k : Kd) (h : Wt t b) : Sb (k.g t b) 1 7 ∧ Nz (k.g t b) := by
  have hb : (b : Rat) ≠ 0 := fun e => by have := Rat.intCast_eq_zero_iff.mp e; have := h.b0; omega
  have ht : (t : Rat) ≠ 0 := fun e => by have := Rat.intCast_eq_zero_iff.mp e; have := h.t0; omega
  cases k with
  | r =>
    refine ⟨⟨[t], [b], 6, .all fun x => ⟨by simpa [er] using hb, ?_⟩, ⟨by simp, by simp; have := h.t0; have := h.t6; omega⟩, ⟨by simp, by simp; have := h.b0; have := h.b4; omega⟩, by decide⟩, .all fun x => ?_⟩
    · simp only [er, ev_cons, ev_nil, Int.mul_zero, Int.add_zero, Kd.g]; grind
    · show (t : Rat) / (b : Rat) ≠ 0; grind
  | l => exact ⟨h.sl, h.nz⟩
  | c => exact ⟨sb_inv h.sl h.nz, nz_inv h.nz⟩
/-- the constant x of the module is the tuple of xs -/
def Kt (K : PySem.W.Frag) (mg : Str → Option Value) (x : Str) (xs : List V) : Prop := ∃ a, mg x = some (.ref a) ∧ ∀ H, SqT K H a xs
def tTp (K : PySem.W.Frag) (xs : List V) : TE := fun _ H Q => ∀ a, SqT K H a xs → Q (.ref a) H
theorem pe_kt {X : Cx} {x : Str} {xs : List V} {pos : Pos} (h : Kt X.K X.mg x xs) (hg : Gl X x) (hd : (x == ("__debug__" : Str)) = false := by decide) : PE X (.Name x pos) (tTp X.K xs) := by
  obtain ⟨a, h1, h2⟩ := h
  exact PE.imp (pe_glob hg h1 (v := .ref a) rfl hd) fun σ H Q z => z a (h2 H)
/-- a ratio's tuple, a rung's tuple -/
def Rv (K : PySem.W.Frag) (H : Hp) (v : V) (t b : Int) : Prop := ∃ a, v = .ref a ∧ SqT K H a [.int t, .int b]
def Gv (K : PySem.W.Frag) (H : Hp) (v : V) (p : Bool) (k : Kd) (t b : Int) : Prop := ∃ a u, v = .ref a ∧ SqT K H a [.str (if p then "P" else "S"), .str k.s, u] ∧ Rv K H u t b
theorem Rv.same {K : PySem.W.Frag} {H H' : Hp} {v : V} {t b : Int} (h : Rv K H v t b) (e : Same H H') : Rv K H' v t b := let ⟨a, h1, h2⟩ := h; ⟨a, h1, same_sqT e h2⟩
theorem Gv.same {K : PySem.W.Frag} {H H' : Hp} {v : V} {p : Bool} {k : Kd} {t b : Int} (h : Gv K H v p k t b) (e : Same H H') : Gv K H' v p k t b := let ⟨a, u, h1, h2, h3⟩ := h; ⟨a, u, h1, same_sqT e h2, h3.same e⟩
section
variable {P : Program} {w : World} {K : PySem.W.Frag} {mg : Str → Option Value} {base : Heap}
/-! ### is_ratio, constant_of, impedance_of -/
abbrev sIsRatio : Stmt := topS 14
theorem scIsRatio : FnScope ["value"] ["value"] (defScope sIsRatio) := ⟨rfl, rfl, rfl, by decide +kernel, rfl, by decide +kernel, by decide +kernel⟩
def spIsRatio (K : PySem.W.Frag) : Sp := fun vs H Q _ => ∃ (v : V) (t b : Int), vs = [v] ∧ Rv K H v t b ∧ Wt t b ∧ Q (.bl true) H
theorem ok_is_ratio (D : Df K mg "is_ratio" sIsRatio ["value"]) (B : Bi mg) (hS : Ki mg "MOST_SIZE" (10 ^ 60)) (Gi : Ok P w K mg base 1 "is_int" ["value"] spIsInt) : Ok P w K mg base 2 "is_ratio" ["value"] (spIsRatio K) := by
  refine D.ok (k := 1) scIsRatio (fun vs H Q E h => by obtain ⟨v, t, b, rfl, _⟩ := h; rfl) fun f cdv A outer s H vs Q E hr h => ?_
  obtain ⟨v, t, b, rfl, ⟨a, rfl, hA⟩, W, k⟩ := h
  refine ⟨_, pss_cons (ps_if (PW.pt (pw_or (pt_not (pt_val (pisi B.isinstance B.tuple bt_tuple (by rfl) (by rfl) (pv 0)))) (pw_or (pt_cmpR op_ne (pb1 call_len_seq B.len bt_len (by rfl) (pv 0)) pe_int (nomark _))
      (pw_or (pt_not (pt_val (pc1 Gi hr (by rfl) (pe_ix ix_tup (pv 0) pe_int (fun _ _ => rfl))))) (pw_or1 (pt_not (pt_val (pc1 Gi hr (by rfl) (pe_ix ix_tup (pv 0) pe_int (fun _ _ => rfl)))))))))) (pss_one (ps_ret pe_bl)) pss_nil)
    (pss_cons (ps_if (PW.pt (pw_or (pt_cmpR op_lt (pe_ix ix_tup (pv 0) pe_int (fun _ _ => rfl)) pe_int (nomark _)) (pw_or (pt_cmpR op_gt (pb1 call_abs B.abs bt_abs (by rfl) (pe_ix ix_tup (pv 0) pe_int (fun _ _ => rfl))) (pe_ki hS (by rfl)) (nomark _))
      (pw_or1 (pt_cmpR op_gt (pe_ix ix_tup (pv 0) pe_int (fun _ _ => rfl)) (pe_ki hS (by rfl)) (nomark _)))))) (pss_one (ps_ret pe_bl)) pss_nil)
    (pss_one (ps_ret (pe_cmpR op_eq (pgcd B.gcd (by rfl) (pe_ix ix_tup (pv 0) pe_int (fun _ _ => rfl)) (pe_ix ix_tup (pv 0) pe_int (fun _ _ => rfl))) pe_int (nomark _))))), ?_⟩
  have i0 : atI [V.int t, V.int b] 0 = some (.int t) := atI_nat (j := 0) rfl
  have i1 : atI [V.int t, V.int b] 1 = some (.int b) := atI_nat (j := 1) rfl
  obtain ⟨w1, w2, w3, w4, w5⟩ := W
  have e60 : (6 : Int) ≤ 10 ^ 60 := by decide
  refine ⟨.ref a, rfl, isi_tup hA ⟨true, rfl, iteF ⟨.ref a, rfl, a, _, rfl, .inr hA, rfl, _, rfl, iteF ⟨.ref a, rfl, a, _, 0, _, rfl, rfl, hA, i0, t, rfl, true, rfl, iteF ⟨.ref a, rfl, a, _, 1, _, rfl, rfl, hA, i1, b, rfl, true, rfl, iteF ?_⟩⟩⟩⟩⟩
  refine ⟨.ref a, rfl, a, _, 1, _, rfl, rfl, hA, i1, b, 1, rfl, rfl, _, rfl, ?_⟩
  rw [decide_eq_false (by omega)]
  refine iteF ⟨.ref a, rfl, a, _, 0, _, rfl, rfl, hA, i0, t, rfl, _, _, rfl, rfl, _, rfl, ?_⟩
  rw [decide_eq_false (by split <;> omega)]
  refine iteF ⟨.ref a, rfl, a, _, 1, _, rfl, rfl, hA, i1, b, _, rfl, rfl, _, rfl, ?_⟩
  rw [decide_eq_false (by omega)]
  refine iteF ⟨.ref a, rfl, a, _, 0, _, rfl, rfl, hA, i0, .ref a, rfl, a, _, 1, _, rfl, rfl, hA, i1, t, b, rfl, rfl, ?_⟩
  rw [w5]
  exact k
abbrev sConstOf : Stmt := topS 38
theorem scConstOf : FnScope ["told"] ["told"] (defScope sConstOf) := ⟨rfl, rfl, rfl, by decide +kernel, rfl, by decide +kernel, by decide +kernel⟩
def spConstOf (K : PySem.W.Frag) : Sp := fun vs H Q _ => ∃ (v : V) (t b : Int), vs = [v] ∧ Rv K H v t b ∧ Wt t b ∧ ∀ H' z, Same H H' → Fv K H' z ([t], [b]) → Q z H'
theorem ok_const_of (D : Df K mg "constant_of" sConstOf ["told"]) (hZ : Kc K mg "ZERO" ([], [1])) : Ok P w K mg base 1 "constant_of" ["told"] (spConstOf K) := by
  refine D.ok (k := 0) scConstOf (fun vs H Q E h => by obtain ⟨v, t, b, rfl, _⟩ := h; rfl) fun f cdv A outer s H vs Q E hr h => ?_
  obtain ⟨v, t, b, rfl, ⟨a, rfl, hA⟩, W, k⟩ := h
  refine ⟨_, pss_one (ps_ret (pe_ifExp (pt_cmpR op_ne (pe_ix ix_tup (pv 0) pe_int (fun _ _ => rfl)) pe_int (nomark _)) (pe_tup (pa_cons (pe_tup (pa_cons (pe_ix ix_tup (pv 0) pe_int (fun _ _ => rfl)) pa_nil)) (pa_cons (pe_tup (pa_cons (pe_ix ix_tup (pv 0) pe_int (fun _ _ => rfl)) pa_nil)) pa_nil))) (pe_kc hZ (by rfl)))), ?_⟩
  have i0 : atI [V.int t, V.int b] 0 = some (.int t) := atI_nat (j := 0) rfl
  have i1 : atI [V.int t, V.int b] 1 = some (.int b) := atI_nat (j := 1) rfl
  refine ⟨.ref a, rfl, a, _, 0, _, rfl, rfl, hA, i0, rfl, _, rfl, ?_⟩
  rw [decide_eq_false (fun e => by have := V.int.inj e; have := W.t0; omega)]
  refine iteT ⟨.ref a, rfl, a, _, 0, _, rfl, rfl, hA, i0, (by decide : 1 ≤ sizeLine), fun l1 n1' => ⟨.ref a, rfl, a, _, 1, _, rfl, rfl, same_sqT (same_upd n1') hA, i1, (by decide : 1 ≤ sizeLine), fun l2 n2 => ⟨(by decide : 2 ≤ sizeLine), fun l3 n3 => ?_⟩⟩⟩
  refine k _ _ ((same_upd n1').trans ((same_upd n2).trans (same_upd n3))) ⟨l3, .ref l1, .ref l2, rfl, .of upd_same, ⟨l1, rfl, .of ?_⟩, ⟨l2, rfl, .of ?_⟩⟩
  · exact same_upd n3 _ _ (same_upd n2 _ _ upd_same)
  · exact same_upd n3 _ _ upd_same
abbrev sImpedanceOf : Stmt := topS 48
abbrev nImpedanceOf : List Str := ["part", "kind", "a", "b", "value", "told"]
theorem scImpedanceOf : FnScope nImpedanceOf ["part"] (defScope sImpedanceOf) := ⟨rfl, rfl, rfl, by decide +kernel, rfl, by decide +kernel, by decide +kernel⟩
def spImpedanceOf (K : PySem.W.Frag) : Sp := fun vs H Q _ => ∃ (a : Addr) (u : V) (kd : Kd) (t b : Int), vs = [.ref a] ∧ SqT K H a [.str kd.s, .int 0, .int 1, u] ∧ Rv K H u t b ∧ Wt t b ∧ ∀ H' z f, Same H H' → Fv K H' z f → Is f (kd.g t b) → Q z H'
theorem ok_impedance_of (D : Df K mg "impedance_of" sImpedanceOf ["part"]) (hV : Kc K mg "VARIABLE" ([0, 1], [1])) (Gc : Ok P w K mg base 1 "constant_of" ["told"] (spConstOf K)) (Gt : Ok P w K mg base 36 "times_of" ["one", "other"] (spOp K cT (· * ·)))
    (Gb : Ok P w K mg base 36 "back_of" ["one"] (spBackOf K)) : Ok P w K mg base 37 "impedance_of" ["part"] (spImpedanceOf K) := by
  refine D.ok (k := 36) scImpedanceOf (fun vs H Q E h => by obtain ⟨a, u, kd, t, b, rfl, _⟩ := h; rfl) fun f cdv A outer s H vs Q E hr h => ?_
  obtain ⟨a, u, kd, t, b, rfl, hA, hu, W, k⟩ := h
  refine ⟨_, pss_cons (ps_asg (pv 0) (pg_tup rfl (pgs_cons (pg_name (i := 1) scImpedanceOf.nd rfl (.inl rfl)) (pgs_cons (pg_name (i := 2) scImpedanceOf.nd rfl (.inl rfl)) (pgs_cons (pg_name (i := 3) scImpedanceOf.nd rfl (.inl rfl)) (pgs_cons (pg_name (i := 4) scImpedanceOf.nd rfl (.inl rfl)) pgs_nil))))))
    (pss_cons (ps_if (pt_cmpR op_eq (pv 1) pe_str (nomark _)) (pss_one (ps_ret (pv 4))) pss_nil)
    (pss_cons (ps_set (i := 5) scImpedanceOf.nd rfl (.inl rfl) (pc1 Gc (hr.mono (by decide)) (by rfl) (pv 4)))
    (pss_cons (ps_if (pt_cmpR op_eq (pv 1) pe_str (nomark _)) (pss_one (ps_ret (pv 5))) pss_nil)
    (pss_one (ps_ret (pe_ifExp (pt_cmpR op_eq (pv 1) pe_str (nomark _)) (pc2 Gt hr (by rfl) (pv 5) (pe_kc hV (by rfl))) (pc1 Gb hr (by rfl) (pc2 Gt hr (by rfl) (pv 5) (pe_kc hV (by rfl)))))))))), ?_⟩
  refine ⟨.ref a, rfl, a, _, rfl, hA, rfl, _, _, rfl, _, _, rfl, _, _, rfl, u, [], rfl, rfl, .str kd.s, rfl, rfl, _, rfl, ?_⟩
  rw [decide_eq_false (by cases kd <;> decide)]
  refine iteF ⟨u, rfl, u, t, b, rfl, hu, W, fun H1 z1 s1 hz1 => ⟨.str kd.s, rfl, rfl, _, rfl, ?_⟩⟩
  have tl : ∀ (Q' : VK), (∀ H' z f, Same H H' → Fv K H' z f → Is f (fun x => (t : Rat) / (b : Rat) * (x : Rat)) → Q' z H') → t2 (fun vs H Q => spOp K cT (· * ·) vs H Q E0) (tVar 5) (tFn K ([0, 1], [1])) [some (.ref a), some (.str kd.s), some (.int 0), some (.int 1), some u, some z1] H1 Q' := fun Q' kk =>
    ⟨z1, rfl, fun zv hzv => ⟨z1, .ref zv, ([t], [b]), ([0, 1], [1]), _, _, 0, 1, 3, 0, rfl, hz1, hzv, W.is, is_var, W.sz, sz_var, by omega, by omega, trivial, fun H2 z2 k2 s2 hz2 J2 => kk _ _ _ (s1.trans s2) hz2 J2⟩⟩
  cases kd with
  | r =>
    rw [decide_eq_true (show V.str Kd.r.s = V.str "R" from rfl)]
    exact iteT ⟨z1, rfl, k _ _ _ s1 hz1 W.is⟩
  | l =>
    rw [decide_eq_false (show ¬ V.str Kd.l.s = V.str "R" by decide)]
    refine iteF ⟨.str Kd.l.s, rfl, rfl, _, rfl, ?_⟩
    rw [decide_eq_true (show V.str Kd.l.s = V.str "L" from rfl)]
    exact iteT (tl _ fun H' z f s' hz I => k _ _ _ s' hz I)
  | c =>
    rw [decide_eq_false (show ¬ V.str Kd.c.s = V.str "R" by decide)]
    refine iteF ⟨.str Kd.c.s, rfl, rfl, _, rfl, ?_⟩
    rw [decide_eq_false (show ¬ V.str Kd.c.s = V.str "L" by decide)]
    refine iteF (tl _ fun H' z f s' hz I => ⟨z, f, _, 1, 7, rfl, hz, I, I.size W.sl, by omega, by omega, I.ne_of W.nz, fun H3 z3 k3 s3 hz3 J3 _ => k _ _ _ (s'.trans s3) hz3 J3⟩)
end
end CN
end
section
set_option Elab.async false
set_option linter.all false
set_option maxRecDepth 100000
set_option maxHeartbeats 4000000
namespace PQ
theorem er_const (c x : Int) : er [c] x = (c : Rat) := by simp [er]
theorem er_lin (c x : Int) : er [0, c] x = (x : Rat) * (c : Rat) := by simp [er]
end PQ
namespace CN
open PySem PySem.Spec PyProof.Rows L2 PQ
/-- the germs of a rung in series, across -/
theorem rg_of {t b : Int} (k : Kd) (W : Wt t b) : Rg (fun _ => 1) (k.g t b) (fun _ => 0) (fun _ => 1) ∧ Rg (fun _ => 1) (fun _ => 0) (fun x => 1 / k.g t b x) (fun _ => 1) := by
  have hb : (b : Rat) ≠ 0 := fun e => by have := Rat.intCast_eq_zero_iff.mp e; have := W.b0; omega
  have ht : (t : Rat) ≠ 0 := fun e => by have := Rat.intCast_eq_zero_iff.mp e; have := W.t0; omega
  obtain ⟨w1, w2, w3, w4, w5⟩ := W
  have pt : Pz [t] 1 6 := ⟨by simp, by simp; omega⟩
  have pb : Pz [b] 1 6 := ⟨by simp, by simp; omega⟩
  have pt' : Pz [0, t] 1 6 := ⟨by simp, by simp; omega⟩
  have pn : Pz [] 1 6 := ⟨by simp, by simp⟩
  have z0 : ∀ x : Int, er [] x = 0 := fun x => by simp [er]
  have hx : Evt fun x : Int => (x : Rat) ≠ 0 := (Evt.ge 1).mono fun x hx e => by have := Rat.intCast_eq_zero_iff.mp e; omega
  cases k with
  | r =>
    refine ⟨⟨[b], [t], [], .all fun x => ?_, .inr rfl, pb, pt, pn⟩, ⟨[t], [], [b], .all fun x => ?_, .inl rfl, pt, pn, pb⟩⟩
    · rw [er_const, er_const, z0]; dsimp only [Kd.g]; refine ⟨hb, rfl, rfl, ?_, ?_⟩ <;> grind
    · rw [er_const, er_const, z0]; dsimp only [Kd.g]; refine ⟨ht, rfl, rfl, ?_, ?_⟩ <;> grind
  | l =>
    refine ⟨⟨[b], [0, t], [], .all fun x => ?_, .inr rfl, pb, pt', pn⟩, ⟨[0, t], [], [b], hx.mono fun x hx => ?_, .inl rfl, pt', pn, pb⟩⟩
    · rw [er_const, er_lin, z0]; dsimp only [Kd.g]; refine ⟨hb, rfl, rfl, ?_, ?_⟩ <;> grind
    · rw [er_const, er_lin, z0]; dsimp only [Kd.g]; refine ⟨by grind, rfl, rfl, ?_, ?_⟩ <;> grind
  | c =>
    refine ⟨⟨[0, t], [b], [], hx.mono fun x hx => ?_, .inr rfl, pt', pb, pn⟩, ⟨[b], [], [0, t], .all fun x => ?_, .inl rfl, pb, pn, pt'⟩⟩
    · rw [er_const, er_lin, z0]; dsimp only [Kd.g]; refine ⟨by grind, rfl, rfl, ?_, ?_⟩ <;> grind
    · rw [er_const, er_lin, z0]; dsimp only [Kd.g]; refine ⟨hb, rfl, rfl, ?_, ?_⟩ <;> grind
section
variable {P : Program} {w : World} {K : PySem.W.Frag} {mg : Str → Option Value} {base : Heap}
abbrev sIsRung : Stmt := topS 54
theorem scIsRung : FnScope ["value"] ["value"] (defScope sIsRung) := ⟨rfl, rfl, rfl, by decide +kernel, rfl, by decide +kernel, by decide +kernel⟩
def spIsRung (K : PySem.W.Frag) : Sp := fun vs H Q _ => ∃ (v : V) (p : Bool) (k : Kd) (t b : Int), vs = [v] ∧ Gv K H v p k t b ∧ Wt t b ∧ Q (.bl true) H
theorem ok_is_rung (D : Df K mg "is_rung" sIsRung ["value"]) (B : Bi mg) (hP : Kt K mg "PLACES" [.str "S", .str "P"]) (hK : Kt K mg "KINDS" [.str "R", .str "L", .str "C"]) (Gr : Ok P w K mg base 2 "is_ratio" ["value"] (spIsRatio K)) : Ok P w K mg base 3 "is_rung" ["value"] (spIsRung K) := by
  refine D.ok (k := 2) scIsRung (fun vs H Q E h => by obtain ⟨v, p, k, t, b, rfl, _⟩ := h; rfl) fun f cdv A outer s H vs Q E hr h => ?_
  obtain ⟨v, p, kd, t, b, rfl, ⟨a, u, rfl, hA, ⟨c, rfl, hC⟩⟩, W, k⟩ := h
  refine ⟨_, pss_cons (ps_if (PW.pt (pw_or (pt_not (pt_val (pisi B.isinstance B.tuple bt_tuple (by rfl) (by rfl) (pv 0)))) (pw_or (pt_cmpR op_ne (pb1 call_len_seq B.len bt_len (by rfl) (pv 0)) pe_int (nomark _))
      (pw_or (pt_not (pt_val (pisi B.isinstance B.str bt_str (by rfl) (by rfl) (pe_ix ix_tup (pv 0) pe_int (fun _ _ => rfl))))) (pw_or1 (pt_cmpR op_notIn_seq (pe_ix ix_tup (pv 0) pe_int (fun _ _ => rfl)) (pe_kt hP (by rfl)) rfl)))))) (pss_one (ps_ret pe_bl)) pss_nil)
    (pss_cons (ps_if (PW.pt (pw_or (pt_not (pt_val (pisi B.isinstance B.str bt_str (by rfl) (by rfl) (pe_ix ix_tup (pv 0) pe_int (fun _ _ => rfl))))) (pw_or1 (pt_cmpR op_notIn_seq (pe_ix ix_tup (pv 0) pe_int (fun _ _ => rfl)) (pe_kt hK (by rfl)) rfl)))) (pss_one (ps_ret pe_bl)) pss_nil)
    (pss_one (ps_ret (pe_and (pc1 Gr hr (by rfl) (pe_ix ix_tup (pv 0) pe_int (fun _ _ => rfl))) (pe_one (pe_cmpR op_gt (pe_ix ix_tup (pe_ix ix_tup (pv 0) pe_int (fun _ _ => rfl)) pe_int (fun _ _ => rfl)) pe_int (nomark _))))))), ?_⟩
  have i0 : ∀ {x y z : V}, atI [x, y, z] 0 = some x := fun {x y z} => atI_nat (xs := [x, y, z]) (j := 0) rfl
  have i1 : ∀ {x y z : V}, atI [x, y, z] 1 = some y := fun {x y z} => atI_nat (xs := [x, y, z]) (j := 1) rfl
  have i2 : ∀ {x y z : V}, atI [x, y, z] 2 = some z := fun {x y z} => atI_nat (xs := [x, y, z]) (j := 2) rfl
  refine ⟨.ref a, rfl, isi_tup hA ⟨true, rfl, iteF ⟨.ref a, rfl, a, _, rfl, .inr hA, rfl, _, rfl, iteF ⟨.ref a, rfl, a, _, 0, _, rfl, rfl, hA, i0, isi_str ⟨true, rfl, iteF ⟨.ref a, rfl, a, _, 0, _, rfl, rfl, hA, i0, fun q hq => ⟨q, _, rfl, .inr hq, rfl, rfl, _, rfl, ?_⟩⟩⟩⟩⟩⟩⟩
  have n1' : (if true then !inV (.str (if p then "P" else "S")) [.str "S", .str "P"] else inV (.str (if p then "P" else "S")) [.str "S", .str "P"]) = false := by cases p <;> decide
  rw [n1']
  refine iteF ⟨.ref a, rfl, a, _, 1, _, rfl, rfl, hA, i1, isi_str ⟨true, rfl, iteF ⟨.ref a, rfl, a, _, 1, _, rfl, rfl, hA, i1, fun q hq => ⟨q, _, rfl, .inr hq, rfl, rfl, _, rfl, ?_⟩⟩⟩⟩
  have n2 : (if true then !inV (.str kd.s) [.str "R", .str "L", .str "C"] else inV (.str kd.s) [.str "R", .str "L", .str "C"]) = false := by cases kd <;> decide
  rw [n2]
  refine iteF ⟨.ref a, rfl, a, _, 2, _, rfl, rfl, hA, i2, .ref c, t, b, rfl, ⟨c, rfl, hC⟩, W, true, rfl, iteT ⟨.ref a, rfl, a, _, 2, _, rfl, rfl, hA, i2, c, _, 0, .int t, rfl, rfl, hC, atI_nat (j := 0) rfl, t, 0, rfl, rfl, ?_⟩⟩
  show Q (.bl (decide ((0 : Int) < t))) H
  rw [decide_eq_true (by have := W.t0; omega)]
  exact k
/-- three rungs -/
def Lv (K : PySem.W.Frag) (H : Hp) (v : V) (ps : List (Bool × Kd × Int × Int)) : Prop := ∃ (a : Addr) (us : List V), v = .ref a ∧ SqT K H a us ∧ Paired (fun u (r : Bool × Kd × Int × Int) => Gv K H u r.1 r.2.1 r.2.2.1 r.2.2.2 ∧ Wt r.2.2.1 r.2.2.2) us ps
theorem lv_at {K : PySem.W.Frag} {H : Hp} : ∀ {us : List V} {ps : List (Bool × Kd × Int × Int)} {i : Nat} {u : V}, Paired (fun u (r : Bool × Kd × Int × Int) => Gv K H u r.1 r.2.1 r.2.2.1 r.2.2.2 ∧ Wt r.2.2.1 r.2.2.2) us ps → us[i]? = some u → ∃ r, ps[i]? = some r ∧ Gv K H u r.1 r.2.1 r.2.2.1 r.2.2.2 ∧ Wt r.2.2.1 r.2.2.2
  | _, _, _, _, .nil, h => by simp at h
  | _, _, 0, _, .cons r _, h => by simp at h; subst h; exact ⟨_, rfl, r⟩
  | _, _, i + 1, _, .cons _ t, h => by simpa using lv_at t (by simpa using h)
abbrev sNeedLadder : Stmt := topS 55
abbrev nNeedLadder : List Str := ["value", "index", "rung"]
theorem scNeedLadder : FnScope nNeedLadder ["value"] (defScope sNeedLadder) := ⟨rfl, rfl, rfl, by decide +kernel, rfl, by decide +kernel, by decide +kernel⟩
def spNeedLadder (K : PySem.W.Frag) : Sp := fun vs H Q _ => ∃ (v : V) (ps : List (Bool × Kd × Int × Int)), vs = [v] ∧ Lv K H v ps ∧ ps.length = 3 ∧ ∀ H', Same H H' → Q .non H'
theorem ok_need_ladder (D : Df K mg "need_ladder" sNeedLadder ["value"]) (B : Bi mg) (hM : Ki mg "MOST_RUNGS" 13) (Gr : Ok P w K mg base 3 "is_rung" ["value"] (spIsRung K)) : Ok P w K mg base 4 "need_ladder" ["value"] (spNeedLadder K) := by
  refine D.ok (k := 3) scNeedLadder (fun vs H Q E h => by obtain ⟨v, ps, rfl, _⟩ := h; rfl) fun f cdv A outer s H vs Q E hr h => ?_
  obtain ⟨v, ps, rfl, ⟨a, us, rfl, hA, hp⟩, l3, k⟩ := h
  have lu : us.length = 3 := by rw [Paired.length hp, l3]
  refine ⟨_, pss_cons (ps_if (PW.pt (pw_or (pt_not (pt_val (pisi B.isinstance B.tuple bt_tuple (by rfl) (by rfl) (pv 0)))) (pw_or1 (pt_not (pt_chain op_le op_le pe_int (pb1 call_len_seq B.len bt_len (by rfl) (pv 0)) (pe_ki hM (by rfl))))))) (pss_one ps_never) pss_nil)
    (pss_one (ps_for PassesOwn.never rfl (pi_enumT (by rfl) B.enumerate (pa_cons (pv 0) pa_nil)) (pg_tup rfl (pgs_cons (pg_name (i := 1) scNeedLadder.nd rfl (.inl rfl)) (pgs_cons (pg_name (i := 2) scNeedLadder.nd rfl (.inl rfl)) pgs_nil)))
      (pss_one (ps_if (pt_not (pt_val (pc1 Gr hr (by rfl) (pv 2)))) (pss_one ps_never) pss_nil)))), ?_⟩
  refine ⟨.ref a, rfl, isi_tup hA ⟨true, rfl, iteF ⟨.ref a, rfl, a, _, rfl, .inr hA, 1, _, rfl, rfl, _, rfl, ?_⟩⟩⟩
  rw [lu, decide_eq_true (by decide)]
  refine iteT ⟨_, _, rfl, rfl, _, rfl, ?_⟩
  rw [decide_eq_true (by decide)]
  refine iteF ⟨.ref a, rfl, a, _, rfl, hA, ?_⟩
  refine for_enumT (fun i σ H' => (∃ y1 y2, σ = [some (.ref a), y1, y2]) ∧ Same H H') ⟨⟨_, _, rfl⟩, Same.refl H⟩ (fun i σ H' z => same_sqT z.2 hA) (fun i u T σ H' hu z nT => ?_) fun σ H' z => ?_
  · obtain ⟨⟨y1, y2, rfl⟩, z1⟩ := z
    obtain ⟨r, _, hg, hw⟩ := lv_at hp hu
    have s2 := z1.trans (same_upd (o := .tup [.int (i : Nat), u]) nT)
    exact ⟨T, _, rfl, .of upd_same, rfl, _, _, rfl, _, _, rfl, rfl, u, rfl, u, _, _, _, _, rfl, hg.same s2, hw, true, rfl, iteF ⟨⟨_, _, rfl⟩, s2⟩⟩
  · exact k _ z.2
abbrev sRungImp : Stmt := topS 56
theorem scRungImp : FnScope ["rung"] ["rung"] (defScope sRungImp) := ⟨rfl, rfl, rfl, by decide +kernel, rfl, by decide +kernel, by decide +kernel⟩
def spRungImp (K : PySem.W.Frag) : Sp := fun vs H Q _ => ∃ (v : V) (p : Bool) (kd : Kd) (t b : Int), vs = [v] ∧ Gv K H v p kd t b ∧ Wt t b ∧ ∀ H' z f, Same H H' → Fv K H' z f → Is f (kd.g t b) → Q z H'
theorem ok_rung_imp (D : Df K mg "rung_impedance" sRungImp ["rung"]) (Gi : Ok P w K mg base 37 "impedance_of" ["part"] (spImpedanceOf K)) : Ok P w K mg base 38 "rung_impedance" ["rung"] (spRungImp K) := by
  refine D.ok (k := 37) scRungImp (fun vs H Q E h => by obtain ⟨v, p, kd, t, b, rfl, _⟩ := h; rfl) fun f cdv A outer s H vs Q E hr h => ?_
  obtain ⟨v, p, kd, t, b, rfl, ⟨a, u, rfl, hA, hu⟩, W, k⟩ := h
  refine ⟨_, pss_one (ps_ret (pc1 Gi hr (by rfl) (pe_tup (pa_cons (pe_ix ix_tup (pv 0) pe_int (fun _ _ => rfl)) (pa_cons pe_int (pa_cons pe_int (pa_cons (pe_ix ix_tup (pv 0) pe_int (fun _ _ => rfl)) pa_nil))))))), ?_⟩
  refine ⟨.ref a, rfl, a, _, 1, _, rfl, rfl, hA, atI_nat (j := 1) rfl, .ref a, rfl, a, _, 2, _, rfl, rfl, hA, atI_nat (j := 2) rfl, (by decide : 4 ≤ sizeLine), fun l nl => ⟨l, u, kd, t, b, rfl, .of upd_same, hu.same (same_upd nl), W, fun H1 z g s1 hz I => k _ _ _ ((same_upd nl).trans s1) hz I⟩⟩
/-! ### products of chains -/
abbrev sSeries : Stmt := topS 62
theorem scSeries : FnScope ["one"] ["one"] (defScope sSeries) := ⟨rfl, rfl, rfl, by decide +kernel, rfl, by decide +kernel, by decide +kernel⟩
def spSeries (K : PySem.W.Frag) : Sp := fun vs H Q _ => ∃ (u : V) (f : Fn) (r : Int → Rat), vs = [u] ∧ Fv K H u f ∧ Is f r ∧ Sb r 1 7 ∧ Nz r ∧ ∀ H' z, Same H H' → ChV K H' z (fun _ => 1) r (fun _ => 0) (fun _ => 1) → Q z H'
theorem ok_series (D : Df K mg "series" sSeries ["one"]) (hZ : Kc K mg "ZERO" ([], [1])) (hO : Kc K mg "ONE" ([1], [1])) : Ok P w K mg base 1 "series" ["one"] (spSeries K) := by
  refine D.ok (k := 0) scSeries (fun vs H Q E h => by obtain ⟨u, f, r, rfl, _⟩ := h; rfl) fun f cdv A outer s H vs Q E hr h => ?_
  obtain ⟨u, f, r, rfl, hu, I, _, _, k⟩ := h
  refine ⟨_, pss_one (ps_ret (pe_tup (pa_cons (pe_kc hO (by rfl)) (pa_cons (pv 0) (pa_cons (pe_kc hZ (by rfl)) (pa_cons (pe_kc hO (by rfl)) pa_nil)))))), ?_⟩
  refine fun o ho => ⟨u, rfl, fun z hz o' ho' => ⟨(by decide : 4 ≤ sizeLine), fun l nl => ?_⟩⟩
  have s1 := same_upd (o := .tup [.ref o, u, .ref z, .ref o']) nl
  exact k _ _ s1 ⟨l, _, _, _, _, _, f, _, _, rfl, .of upd_same, ho.same s1, hu.same s1, hz.same s1, ho'.same s1, is_one, I, is_zero, is_one⟩
abbrev sAcross : Stmt := topS 63
theorem scAcross : FnScope ["one"] ["one"] (defScope sAcross) := ⟨rfl, rfl, rfl, by decide +kernel, rfl, by decide +kernel, by decide +kernel⟩
def spAcross (K : PySem.W.Frag) : Sp := fun vs H Q _ => ∃ (u : V) (f : Fn) (r : Int → Rat), vs = [u] ∧ Fv K H u f ∧ Is f r ∧ Sb r 1 7 ∧ Nz r ∧ ∀ H' z, Same H H' → ChV K H' z (fun _ => 1) (fun _ => 0) (fun x => 1 / r x) (fun _ => 1) → Q z H'
theorem ok_across (D : Df K mg "across" sAcross ["one"]) (hZ : Kc K mg "ZERO" ([], [1])) (hO : Kc K mg "ONE" ([1], [1])) (Gb : Ok P w K mg base 36 "back_of" ["one"] (spBackOf K)) : Ok P w K mg base 37 "across" ["one"] (spAcross K) := by
  refine D.ok (k := 36) scAcross (fun vs H Q E h => by obtain ⟨u, f, r, rfl, _⟩ := h; rfl) fun f cdv A outer s H vs Q E hr h => ?_
  obtain ⟨u, f, r, rfl, hu, I, hs, hn, k⟩ := h
  refine ⟨_, pss_one (ps_ret (pe_tup (pa_cons (pe_kc hO (by rfl)) (pa_cons (pe_kc hZ (by rfl)) (pa_cons (pc1 Gb hr (by rfl) (pv 0)) (pa_cons (pe_kc hO (by rfl)) pa_nil)))))), ?_⟩
  refine fun o ho z hz => ⟨u, rfl, u, f, r, 1, 7, rfl, hu, I, I.size hs, by omega, by omega, I.ne_of hn, fun H1 z1 k1 s1 hz1 J1 _ => fun o' ho' => ⟨(by decide : 4 ≤ sizeLine), fun l nl => ?_⟩⟩
  have s2 := same_upd (o := .tup [.ref o, .ref z, z1, .ref o']) nl
  exact k _ _ (s1.trans s2) ⟨l, _, _, _, _, _, _, k1, _, rfl, .of upd_same, ho.same (s1.trans s2), hz.same (s1.trans s2), hz1.same s2, ho'.same s2, is_one, is_zero, J1, is_one⟩
abbrev sProduct : Stmt := topS 64
abbrev nProduct : List Str := ["one", "other", "a", "b", "c", "d", "e", "f", "g", "h"]
theorem scProduct : FnScope nProduct ["one", "other"] (defScope sProduct) := ⟨rfl, rfl, rfl, by decide +kernel, rfl, by decide +kernel, by decide +kernel⟩
def spProduct (K : PySem.W.Frag) : Sp := fun vs H Q _ => ∃ (u v : V) (a b c d e f g h : Int → Rat) (k s m : Nat), vs = [u, v] ∧ ChV K H u a b c d ∧ ChV K H v e f g h ∧ Lad k s m a b c d ∧ Rg e f g h ∧ k ≤ 2 ∧ m ≤ 1000 ∧
  ∀ H' z, Same H H' → ChV K H' z (fun x => a x * e x + b x * g x) (fun x => a x * f x + b x * h x) (fun x => c x * e x + d x * g x) (fun x => c x * f x + d x * h x) → Q z H'
theorem ok_product (D : Df K mg "product" sProduct ["one", "other"]) (Gt : Ok P w K mg base 36 "times_of" ["one", "other"] (spOp K cT (· * ·))) (Gp : Ok P w K mg base 36 "plus_of" ["one", "other"] (spOp K cT (· + ·))) : Ok P w K mg base 37 "product" ["one", "other"] (spProduct K) := by
  refine D.ok (k := 36) scProduct (fun vs H Q E h => by obtain ⟨u, v, a, b, c, d, e, f, g, h, k, s, m, rfl, _⟩ := h; rfl) fun fa cdv A outer s0 H vs Q E hr hh => ?_
  obtain ⟨u, v, a, b, c, d, e, f, g, h, kk, ss, mm, rfl, ⟨t1, u1, u2, u3, u4, f1, f2, f3, f4, rfl, hT1, h1, h2, h3, h4, I1, I2, I3, I4⟩, ⟨t2, v1, v2, v3, v4, g1, g2, g3, g4, rfl, hT2, q1, q2, q3, q4, J1, J2, J3, J4⟩, L, R, hk, hm, k⟩ := hh
  obtain ⟨⟨Sa, Sb', Sc, Sd⟩, ⟨Se, Sf, Sg, Sh⟩, m1, m2, m3, m4, m5, m6, m7, m8⟩ := L.sizes R hk hm
  have tt : ∀ {x y : Nat} , True := trivial
  refine ⟨_, pss_cons (ps_asg (pv 0) (pg_tup rfl (pgs_cons (pg_name (i := 2) scProduct.nd rfl (.inl rfl)) (pgs_cons (pg_name (i := 3) scProduct.nd rfl (.inl rfl)) (pgs_cons (pg_name (i := 4) scProduct.nd rfl (.inl rfl)) (pgs_cons (pg_name (i := 5) scProduct.nd rfl (.inl rfl)) pgs_nil))))))
    (pss_cons (ps_asg (pv 1) (pg_tup rfl (pgs_cons (pg_name (i := 6) scProduct.nd rfl (.inl rfl)) (pgs_cons (pg_name (i := 7) scProduct.nd rfl (.inl rfl)) (pgs_cons (pg_name (i := 8) scProduct.nd rfl (.inl rfl)) (pgs_cons (pg_name (i := 9) scProduct.nd rfl (.inl rfl)) pgs_nil))))))
    (pss_one (ps_ret (pe_tup (pa_cons (pc2 Gp hr (by rfl) (pc2 Gt hr (by rfl) (pv 2) (pv 6)) (pc2 Gt hr (by rfl) (pv 3) (pv 8))) (pa_cons (pc2 Gp hr (by rfl) (pc2 Gt hr (by rfl) (pv 2) (pv 7)) (pc2 Gt hr (by rfl) (pv 3) (pv 9)))
      (pa_cons (pc2 Gp hr (by rfl) (pc2 Gt hr (by rfl) (pv 4) (pv 6)) (pc2 Gt hr (by rfl) (pv 5) (pv 8))) (pa_cons (pc2 Gp hr (by rfl) (pc2 Gt hr (by rfl) (pv 4) (pv 7)) (pc2 Gt hr (by rfl) (pv 5) (pv 9))) pa_nil)))))))), ?_⟩
  refine ⟨.ref t1, rfl, t1, _, rfl, hT1, rfl, u1, _, rfl, u2, _, rfl, u3, _, rfl, u4, [], rfl, rfl, .ref t2, rfl, t2, _, rfl, hT2, rfl, v1, _, rfl, v2, _, rfl, v3, _, rfl, v4, [], rfl, rfl, ?_⟩
  refine ⟨u1, rfl, v1, rfl, u1, v1, f1, g1, a, e, 4, 4, 60, 60, rfl, h1, q1, I1, J1, I1.size Sa, J1.size Se, by omega, by omega, trivial, fun H1 x1 k1 s1 hx1 L1 => ?_⟩
  refine ⟨u2, rfl, v3, rfl, u2, v3, f2, g3, b, g, 4, 4, 60, 60, rfl, h2.same s1, q3.same s1, I2, J3, I2.size Sb', J3.size Sg, by omega, by omega, trivial, fun H2 x2 k2 s2 hx2 L2' => ?_⟩
  refine ⟨x1, x2, k1, k2, _, _, 4, 4, 60, 60, rfl, hx1.same s2, hx2, L1, L2', L1.size m1, L2'.size m2, by omega, by omega, trivial, fun H3 y1 j1 s3 hy1 M1 => ?_⟩
  have s13 := (s1.trans s2).trans s3
  refine ⟨u1, rfl, v2, rfl, u1, v2, f1, g2, a, f, 4, 4, 60, 60, rfl, h1.same s13, q2.same s13, I1, J2, I1.size Sa, J2.size Sf, by omega, by omega, trivial, fun H4 x3 k3 s4 hx3 L3 => ?_⟩
  refine ⟨u2, rfl, v4, rfl, u2, v4, f2, g4, b, h, 4, 4, 60, 60, rfl, h2.same (s13.trans s4), q4.same (s13.trans s4), I2, J4, I2.size Sb', J4.size Sh, by omega, by omega, trivial, fun H5 x4 k4 s5 hx4 L4 => ?_⟩
  refine ⟨x3, x4, k3, k4, _, _, 4, 4, 60, 60, rfl, hx3.same s5, hx4, L3, L4, L3.size m3, L4.size m4, by omega, by omega, trivial, fun H6 y2 j2 s6 hy2 M2 => ?_⟩
  have s46 := (s4.trans s5).trans s6
  have s16 := s13.trans s46
  refine ⟨u3, rfl, v1, rfl, u3, v1, f3, g1, c, e, 4, 4, 60, 60, rfl, h3.same s16, q1.same s16, I3, J1, I3.size Sc, J1.size Se, by omega, by omega, trivial, fun H7 x5 k5 s7 hx5 L5 => ?_⟩
  refine ⟨u4, rfl, v3, rfl, u4, v3, f4, g3, d, g, 4, 4, 60, 60, rfl, h4.same (s16.trans s7), q3.same (s16.trans s7), I4, J3, I4.size Sd, J3.size Sg, by omega, by omega, trivial, fun H8 x6 k6 s8 hx6 L6 => ?_⟩
  refine ⟨x5, x6, k5, k6, _, _, 4, 4, 60, 60, rfl, hx5.same s8, hx6, L5, L6, L5.size m5, L6.size m6, by omega, by omega, trivial, fun H9 y3 j3 s9 hy3 M3 => ?_⟩
  have s79 := (s7.trans s8).trans s9
  have s19 := s16.trans s79
  refine ⟨u3, rfl, v2, rfl, u3, v2, f3, g2, c, f, 4, 4, 60, 60, rfl, h3.same s19, q2.same s19, I3, J2, I3.size Sc, J2.size Sf, by omega, by omega, trivial, fun H10 x7 k7 s10 hx7 L7 => ?_⟩
  refine ⟨u4, rfl, v4, rfl, u4, v4, f4, g4, d, h, 4, 4, 60, 60, rfl, h4.same (s19.trans s10), q4.same (s19.trans s10), I4, J4, I4.size Sd, J4.size Sh, by omega, by omega, trivial, fun H11 x8 k8 s11 hx8 L8 => ?_⟩
  refine ⟨x7, x8, k7, k8, _, _, 4, 4, 60, 60, rfl, hx7.same s11, hx8, L7, L8, L7.size m7, L8.size m8, by omega, by omega, trivial, fun H12 y4 j4 s12 hy4 M4 => ⟨(by decide : 4 ≤ sizeLine), fun l nl => ?_⟩⟩
  have s1012 := (s10.trans s11).trans s12
  have sl := same_upd (o := .tup [y1, y2, y3, y4]) nl
  exact k _ _ ((s19.trans s1012).trans sl) ⟨l, y1, y2, y3, y4, j1, j2, j3, j4, rfl, .of upd_same, hy1.same (((s46.trans s79).trans s1012).trans sl), hy2.same ((s79.trans s1012).trans sl), hy3.same (s1012.trans sl), hy4.same sl, M1, M2, M3, M4⟩
end
end CN
end
section
set_option Elab.async false
set_option linter.all false
set_option maxRecDepth 100000
set_option maxHeartbeats 4000000
namespace CN
open PySem PySem.Spec PyProof.Rows L2 PQ
/-- the constant x of the module is the text z -/
def Ks (mg : Str → Option Value) (x z : Str) : Prop := ∃ t, mg x = some (.str z t)
theorem pe_ks {X : Cx} {x z : Str} {pos : Pos} (h : Ks X.mg x z) (hg : Gl X x) (hd : (x == ("__debug__" : Str)) = false := by decide) : PE X (.Name x pos) (tC (.str z)) := by
  obtain ⟨t, h1⟩ := h
  exact pe_glob hg h1 (v := .str z) ⟨t, rfl⟩ hd
/-- the constant chain -/
def Kn (K : PySem.W.Frag) (mg : Str → Option Value) : Prop := ∃ a, mg "NOTHING" = some (.ref a) ∧ ∀ H, ChV K H (.ref a) (fun _ => 1) (fun _ => 0) (fun _ => 0) (fun _ => 1)
def tKn (K : PySem.W.Frag) : TE := fun _ H Q => ∀ a, ChV K H (.ref a) (fun _ => 1) (fun _ => 0) (fun _ => 0) (fun _ => 1) → Q (.ref a) H
theorem pe_kn {X : Cx} {pos : Pos} (h : Kn X.K X.mg) (hg : Gl X "NOTHING") : PE X (.Name "NOTHING" pos) (tKn X.K) := by
  obtain ⟨a, h1, h2⟩ := h
  exact PE.imp (pe_glob hg h1 (v := .ref a) rfl (by decide)) fun σ H Q z => z a (h2 H)
def ms : Nat → Nat
  | 0 => 1
  | i + 1 => 6 * 12 ^ i
section
variable {P : Program} {w : World} {K : PySem.W.Frag} {mg : Str → Option Value} {base : Heap}
abbrev sLadder : Stmt := topS 65
abbrev nLadder : List Str := ["ladder", "found", "rung", "told"]
theorem scLadder : FnScope nLadder ["ladder"] (defScope sLadder) := ⟨rfl, rfl, rfl, by decide +kernel, rfl, by decide +kernel, by decide +kernel⟩
def spLadder (K : PySem.W.Frag) : Sp := fun vs H Q _ => ∃ (v : V) (ps : List (Bool × Kd × Int × Int)), vs = [v] ∧ Lv K H v ps ∧ ps.length = 3 ∧ ∀ H' z a b c d, Same H H' → ChV K H' z a b c d → Lad 3 1728 864 a b c d → Q z H'
theorem ok_ladder (D : Df K mg "ladder_chain" sLadder ["ladder"]) (hN : Kn K mg) (hS : Ks mg "SERIES" "S") (Gn : Ok P w K mg base 4 "need_ladder" ["value"] (spNeedLadder K)) (Gr : Ok P w K mg base 38 "rung_impedance" ["rung"] (spRungImp K))
    (Gp : Ok P w K mg base 37 "product" ["one", "other"] (spProduct K)) (Gs : Ok P w K mg base 1 "series" ["one"] (spSeries K)) (Gx : Ok P w K mg base 37 "across" ["one"] (spAcross K)) (Ga : Ok P w K mg base 2 "all_small" ["some"] (spAllSmall K)) :
    Ok P w K mg base 39 "ladder_chain" ["ladder"] (spLadder K) := by
  refine D.ok (k := 38) scLadder (fun vs H Q E h => by obtain ⟨v, ps, rfl, _⟩ := h; rfl) fun f cdv A outer s H vs Q E hr h => ?_
  obtain ⟨v, ps, rfl, hv, l3, k⟩ := h
  obtain ⟨a, us, rfl, hA, hp⟩ := id hv
  have lu : us.length = 3 := by rw [Paired.length hp, l3]
  refine ⟨_, pss_cons (ps_expr (pc1 Gn (hr.mono (by decide)) (by rfl) (pv 0))) (pss_cons (ps_set (i := 1) scLadder.nd rfl (.inl rfl) (pe_kn hN (by rfl)))
    (pss_cons (ps_for PassesOwn.never rfl (pi_tup (pv 0)) (pg_name (i := 2) scLadder.nd rfl (.inl rfl)) (pss_cons (ps_set (i := 3) scLadder.nd rfl (.inl rfl) (pc1 Gr hr (by rfl) (pv 2)))
      (pss_one (ps_set (i := 1) scLadder.nd rfl (.inl rfl) (pc2 Gp (hr.mono (by decide)) (by rfl) (pv 1) (pe_ifExp (pt_cmpR op_eq (pe_ix ix_tup (pv 2) pe_int (fun _ _ => rfl)) (pe_ks hS (by rfl)) (nomark _)) (pc1 Gs (hr.mono (by decide)) (by rfl) (pv 3)) (pc1 Gx (hr.mono (by decide)) (by rfl) (pv 3))))))))
    (pss_one (ps_ret (pc1 Ga (hr.mono (by decide)) (by rfl) (pv 1)))))), ?_⟩
  refine ⟨.ref a, rfl, .ref a, ps, rfl, hv, l3, fun H0 s0 => fun na hna => ⟨.ref a, rfl, a, rfl, ⟨_, same_sqT s0 hA⟩, ?_⟩⟩
  refine for_tup (xs := us) (fun i σ H' => (∃ fv y2 y3, σ = [some (.ref a), some fv, y2, y3] ∧ ∃ a b c d, ChV K H' fv a b c d ∧ Lad i (12 ^ i) (ms i) a b c d) ∧ Same H H') ⟨⟨_, _, _, rfl, _, _, _, _, hna, lad_start⟩, s0⟩ (fun i σ H' _ z => same_sqT z.2 hA) (fun i u σ H' hu z => ?_) fun σ H' z => ?_
  · obtain ⟨⟨fv, y2, y3, rfl, a1, b1, c1, d1, hf, L⟩, z1⟩ := z
    obtain ⟨⟨p, kd, t, b⟩, _, hg, W⟩ := lv_at hp hu
    have hi : i < 3 := by have := (List.getElem?_eq_some_iff.mp hu).1; omega
    have hg' := hg.same z1
    have W' : Wt t b := W
    obtain ⟨ga, gu, rfl, gA, gR⟩ := id hg'
    refine ⟨.ref ga, rfl, .ref ga, p, kd, t, b, rfl, hg', W', fun H1 x1 g1 s1 hx1 J1 => ?_⟩
    obtain ⟨sb, nz⟩ := kd.sb W'
    have hm : ms i ≤ 1000 := by
      have : i = 0 ∨ i = 1 ∨ i = 2 := by omega
      rcases this with rfl | rfl | rfl <;> decide
    have e12 : 12 * 12 ^ i = 12 ^ (i + 1) := by rw [Nat.pow_succ]; omega
    refine ⟨fv, rfl, .ref ga, rfl, ga, _, 0, _, rfl, rfl, same_sqT s1 gA, atI_nat (j := 0) rfl, rfl, _, rfl, ?_⟩
    cases p with
    | false =>
      rw [decide_eq_true (show V.str (if (false : Bool) = true then "P" else "S") = V.str "S" from rfl)]
      refine iteT ⟨x1, rfl, x1, g1, _, rfl, hx1, J1, sb, nz, fun H2 x2 s2 hx2 => ?_⟩
      obtain ⟨R, _⟩ := rg_of kd W'
      refine ⟨fv, x2, _, _, _, _, _, _, _, _, i, _, _, rfl, hf.same (s1.trans s2), hx2, L, R, by omega, hm, fun H3 x3 s3 hx3 => ⟨⟨x3, _, _, rfl, _, _, _, _, hx3, ?_⟩, (z1.trans s1).trans (s2.trans s3)⟩⟩
      have := L.step R
      rw [e12] at this
      exact this
    | true =>
      rw [decide_eq_false (show ¬ V.str (if (true : Bool) = true then "P" else "S") = V.str "S" by decide)]
      refine iteF ⟨x1, rfl, x1, g1, _, rfl, hx1, J1, sb, nz, fun H2 x2 s2 hx2 => ?_⟩
      obtain ⟨_, R⟩ := rg_of kd W'
      refine ⟨fv, x2, _, _, _, _, _, _, _, _, i, _, _, rfl, hf.same (s1.trans s2), hx2, L, R, by omega, hm, fun H3 x3 s3 hx3 => ⟨⟨x3, _, _, rfl, _, _, _, _, hx3, ?_⟩, (z1.trans s1).trans (s2.trans s3)⟩⟩
      have := L.step R
      rw [e12] at this
      exact this
  · obtain ⟨⟨fv, y2, y3, rfl, a1, b1, c1, d1, hf, L⟩, z1⟩ := z
    rw [lu] at L
    have L' : Lad 3 1728 864 a1 b1 c1 d1 := L
    obtain ⟨A', B', C', E', D', HH, ⟨pA, pB, pC, pE, pD⟩, _⟩ := id L'
    have kp : 864 * kap 3 ≤ 2 ^ 31 := by decide
    have sz : ∀ {z : Int → Rat} {X : List Int}, Pz X 3 864 → (∀ x, (er D' x ≠ 0 ∧ a1 x * er D' x = er A' x ∧ b1 x * er D' x = er B' x ∧ c1 x * er D' x = er C' x ∧ d1 x * er D' x = er E' x ∧ a1 x * d1 x - b1 x * c1 x = 1) → z x * er D' x = er X x) → Sb z 3 31 := fun {z X} pX hX =>
      Sb.of 3 (A := X) (Q := D') (d' := 3) (B' := 864) (B := 864) (HH.mono fun x hx => ⟨hx.1, hX x hx⟩) pX pD (by omega) (by omega) kp
    exact ⟨fv, rfl, fv, a1, b1, c1, d1, 3, 3, 3, 3, 31, 31, 31, 31, rfl, hf, sz pA (fun x h => h.2.1), sz pB (fun x h => h.2.2.1), sz pC (fun x h => h.2.2.2.1), sz pE (fun x h => h.2.2.2.2.1), by omega, by omega, by omega, by omega, fun H3 z3 s3 hz3 => k _ _ _ _ _ _ (z1.trans s3) hz3 L'⟩
end
end CN
end
section
set_option Elab.async false
set_option linter.all false
set_option maxRecDepth 100000
set_option maxHeartbeats 4000000
namespace CN
open PySem PySem.Spec PyProof.Rows L2 PQ
/-! ### the script's row -/
/-- all but r stands -/
def SB (r : Addr) (H H' : Hp) : Prop := ∀ b o, b ≠ r → H b = some o → H' b = some o
theorem SB.refl {r : Addr} {H : Hp} : SB r H H := fun _ _ _ e => e
theorem SB.trans {r : Addr} {H1 H2 H3 : Hp} (h : SB r H1 H2) (g : SB r H2 H3) : SB r H1 H3 := fun b o n e => g b o n (h b o n e)
theorem same_sb {r : Addr} {H H' : Hp} (h : Same H H') : SB r H H' := fun b o _ e => h b o e
theorem sb_upd {r : Addr} {H : Hp} {o : HO} : SB r H (upd H r o) := fun b u n e => by rw [upd_ne n]; exact e
theorem sb_new {r p : Addr} {H : Hp} {o : HO} (h : H p = none) : SB r H (upd H p o) := same_sb (same_upd h)
def ScrS (K : PySem.W.Frag) (H : Hp) (a : Addr) (xs : List V) : Prop := (∃ o, H a = some (.frz o (.lst xs))) ∨
  ∃ (o : Obj) (its : Array Value) (n : Nat), K.lookup a = some o ∧ o.cls = .type "list" ∧ o.dict = none ∧ o.data = .seq its n ∧ its.size ≤ sizeLine ∧ Vals xs its.toList
theorem ScrS.sq {K : PySem.W.Frag} {H : Hp} {a : Addr} {xs : List V} (h : ScrS K H a xs) : SqL K H a xs := by
  rcases h with ⟨o, h⟩ | h
  · exact .inl (.inr ⟨o, h⟩)
  · exact .inr h
def isL (H : Hp) (r : Addr) : Prop := ∃ xs, H r = some (.lst xs)
theorem ScrS.sb {K : PySem.W.Frag} {H H' : Hp} {r a : Addr} {xs : List V} (h : ScrS K H a xs) (hr : isL H r) (e : SB r H H') : ScrS K H' a xs := by
  rcases h with ⟨o, h⟩ | h
  · refine .inl ⟨o, e _ _ (fun z => ?_) h⟩
    subst z
    obtain ⟨ys, hr⟩ := hr
    rw [h] at hr; cases hr
  · exact .inr h
/-- the row stands at r -/
def RowP (K : PySem.W.Frag) (r : Addr) (H : Hp) : Prop := ∃ (sc : Addr) (ns : List Int) (n : Nat) (m rest : Int), H r = some (.lst [.ref sc, .int n, .int m, .int rest]) ∧ ScrS K H sc (ns.map V.int)
theorem RowP.isL {K : PySem.W.Frag} {r : Addr} {H : Hp} (h : RowP K r H) : isL H r := let ⟨_, _, _, _, _, h, _⟩ := h; ⟨_, h⟩
theorem RowP.same {K : PySem.W.Frag} {r : Addr} {H H' : Hp} (h : RowP K r H) (e : Same H H') : RowP K r H' := by
  have hl := h.isL
  obtain ⟨sc, ns, n, m, rest, h1, h2⟩ := h
  exact ⟨sc, ns, n, m, rest, e _ _ h1, h2.sb hl (same_sb e)⟩
theorem RowP.set {K : PySem.W.Frag} {r : Addr} {H : Hp} (sc : Addr) (ns : List Int) (n : Nat) (m rest : Int) (h2 : ScrS K H sc (ns.map V.int)) (hl : CN.isL H r) : RowP K r (upd H r (.lst [.ref sc, .int n, .int m, .int rest])) :=
  ⟨sc, ns, n, m, rest, upd_same, h2.sb hl sb_upd⟩
theorem sb_sqT {K : PySem.W.Frag} {H H' : Hp} {r a : Addr} {xs : List V} (hl : isL H r) (e : SB r H H') (h : SqT K H a xs) : SqT K H' a xs := by
  obtain ⟨ys, hl⟩ := hl
  rcases h with (h | ⟨o, h⟩) | h
  · exact .inl (.inl (e _ _ (fun z => by subst z; rw [h] at hl; cases hl) h))
  · exact .inl (.inr ⟨o, e _ _ (fun z => by subst z; rw [h] at hl; cases hl) h⟩)
  · exact .inr h
theorem Pl.sb {K : PySem.W.Frag} {H H' : Hp} {r : Addr} {v : V} {p : List Int} (h : Pl K H v p) (hl : isL H r) (e : SB r H H') : Pl K H' v p := let ⟨a, h1, h2⟩ := h; ⟨a, h1, sb_sqT hl e h2⟩
theorem Fv.sb {K : PySem.W.Frag} {H H' : Hp} {r : Addr} {v : V} {f : Fn} (h : Fv K H v f) (hl : isL H r) (e : SB r H H') : Fv K H' v f := let ⟨a, u, z, h1, h2, h3, h4⟩ := h; ⟨a, u, z, h1, sb_sqT hl e h2, h3.sb hl e, h4.sb hl e⟩
section
variable {P : Program} {w : World} {K : PySem.W.Frag} {mg : Str → Option Value} {base : Heap}
/-! ### taken -/
abbrev lTaken : Stmt := topS 83
abbrev nlTaken : List Str := ["_law_row", "_law_many", "_law_found", "_law_cell"]
theorem slTaken : FnScope nlTaken ["_law_row", "_law_many"] (defScope lTaken) := ⟨rfl, rfl, rfl, by decide +kernel, rfl, by decide +kernel, by decide +kernel⟩
def lpTaken (K : PySem.W.Frag) : Sp := fun vs H Q _ => ∃ (r : Addr) (many : Int), vs = [.ref r, .int many] ∧ RowP K r H ∧ 1 ≤ many ∧ many ≤ 1000 ∧ ∀ H' x, SB r H H' → RowP K r H' → 0 ≤ x → x < many → Q (.int x) H'
theorem ol_taken (D : Df K mg "_law_taken" lTaken ["_law_row", "_law_many"]) (B : Bi mg) : Ok P w K mg base 1 "_law_taken" ["_law_row", "_law_many"] (lpTaken K) := by
  refine D.ok (k := 0) slTaken (fun vs H Q E h => by obtain ⟨a, p, rfl, _⟩ := h; rfl) fun f cdv A outer s H vs Q E hr h => ?_
  obtain ⟨r, many, rfl, hR, m1, m2, q⟩ := h
  have hl := hR.isL
  obtain ⟨sc, ns, n, m, rest, hH, hS⟩ := hR
  refine ⟨_, pss_cons (ps_if (pt_cmpR op_gt (pe_ix ix_list (pv 0) pe_int (fun _ _ => rfl)) pe_int (nomark _))
      (pss_cons (ps_set (i := 2) slTaken.nd rfl (.inl rfl) (pe_op op_mod (pt1 call_int1 B.int bt_int (by rfl) (pe_ix ix_list (pv 0) pe_int (fun _ _ => rfl))) (pv 1)))
      (pss_cons (ps_asg (pe_op op_fdivN (pe_ix ix_list (pv 0) pe_int (fun _ _ => rfl)) (pv 1)) (pg_sub (pv 0) pe_int set_list))
      (pss_one (ps_ret (pv 2))))) pss_nil)
    (pss_cons (ps_asg (pe_op op_add (pe_ix ix_list (pv 0) pe_int (fun _ _ => rfl)) pe_int) (pg_sub (pv 0) pe_int set_list))
    (pss_cons (ps_if (pt_cmpR op_gt (pe_ix ix_list (pv 0) pe_int (fun _ _ => rfl)) (pb1 call_len_seq B.len bt_len (by rfl) (pe_ix ix_list (pv 0) pe_int (fun _ _ => rfl))) (nomark _))
      (pss_cons (ps_asg (pe_op op_mod (pt1 call_int1 B.int bt_int (by rfl) (pe_op op_add (pe_op op_mul (pe_ix ix_list (pv 0) pe_int (fun _ _ => rfl)) pe_int) pe_int)) pe_int) (pg_sub (pv 0) pe_int set_list))
      (pss_one (ps_ret (pe_op op_mod (pt1 call_int1 B.int bt_int (by rfl) (pe_op op_fdivN (pe_ix ix_list (pv 0) pe_int (fun _ _ => rfl)) pe_int)) (pv 1))))) pss_nil)
    (pss_cons (ps_set (i := 3) slTaken.nd rfl (.inl rfl) (pe_ix ix_list (pe_ix ix_list (pv 0) pe_int (fun _ _ => rfl)) (pe_op op_sub (pe_ix ix_list (pv 0) pe_int (fun _ _ => rfl)) pe_int) (fun _ _ => rfl)))
    (pss_cons (ps_asg (pe_op op_mod (pt1 call_int1 B.int bt_int (by rfl) (pe_op op_add (pe_op op_add (pe_op op_mul (pe_ix ix_list (pv 0) pe_int (fun _ _ => rfl)) pe_int) (pv 3)) pe_int)) pe_int) (pg_sub (pv 0) pe_int set_list))
    (pss_cons (ps_if (pt_cmpR op_ge (pv 3) (pe_op op_pow pe_int pe_int) (nomark _))
      (pss_one (ps_asg (pe_op op_fdivN (pv 3) (pv 1)) (pg_sub (pv 0) pe_int set_list))) pss_nil)
    (pss_one (ps_ret (pe_op op_mod (pt1 call_int1 B.int bt_int (by rfl) (pv 3)) (pv 1))))))))), ?_⟩
  have at4 : ∀ {a b c d : V} {j : Nat} {z : V}, [a, b, c, d][j]? = some z → atI [a, b, c, d] ((j : Nat) : Int) = some z := fun h => atI_nat h
  have dv : ∀ {z : Int}, CDivN z many := fun {z} => ⟨by omega, by omega⟩
  have md : ∀ z : Int, 0 ≤ z % many ∧ z % many < many := fun z => ⟨Int.emod_nonneg _ (by omega), Int.emod_lt_of_pos _ (by omega)⟩
  refine ⟨.ref r, rfl, r, _, 3, .int rest, rfl, rfl, .of hH, at4 (j := 3) rfl, rest, 0, rfl, rfl, _, rfl, ite2 (fun h0 => ?_) (fun h0 => ?_)⟩
  · refine ⟨.ref r, rfl, r, _, 3, .int rest, rfl, rfl, .of hH, at4 (j := 3) rfl, .inl ⟨rest, rfl, .int many, rfl, rest, many, rfl, rfl, by omega, ?_⟩⟩
    refine ⟨.ref r, rfl, r, _, 3, .int rest, rfl, rfl, .of hH, at4 (j := 3) rfl, .int many, rfl, rest, many, rfl, rfl, dv, .ref r, rfl, r, _, 3, 3, rfl, rfl, hH, rfl, ?_⟩
    exact ⟨_, rfl, q _ _ sb_upd (RowP.set sc ns n m (rest.fdiv many) hS hl) (md _).1 (md _).2⟩
  -- a new cell
  refine ⟨.ref r, rfl, r, _, 1, .int n, rfl, rfl, .of hH, at4 (j := 1) rfl, n, 1, rfl, rfl, .ref r, rfl, r, _, 1, 1, rfl, rfl, hH, rfl, ?_⟩
  have hH1 : (upd H r (.lst [.ref sc, .int (((n + 1 : Nat)) : Int), .int m, .int rest])) r = some (.lst [.ref sc, .int (((n + 1 : Nat)) : Int), .int m, .int rest]) := upd_same
  have sb1 : SB r H (upd H r (.lst [.ref sc, .int (((n + 1 : Nat)) : Int), .int m, .int rest])) := sb_upd
  have e1 : upd H r (.lst (List.set [.ref sc, .int n, .int m, .int rest] 1 (.int ((n : Int) + 1)))) = upd H r (.lst [.ref sc, .int (((n + 1 : Nat)) : Int), .int m, .int rest]) := rfl
  show (tSeq _ _) _ _ (upd H r (.lst [.ref sc, .int (((n + 1 : Nat)) : Int), .int m, .int rest]))
  generalize (upd H r (.lst [.ref sc, .int (((n + 1 : Nat)) : Int), .int m, .int rest])) = H1 at hH1 sb1 ⊢
  have hl1 : isL H1 r := ⟨_, hH1⟩
  have hS1 := hS.sb hl sb1
  refine ⟨.ref r, rfl, r, _, 1, .int ((n + 1 : Nat) : Int), rfl, rfl, .of hH1, at4 (j := 1) rfl, .ref r, rfl, r, _, 0, .ref sc, rfl, rfl, .of hH1, at4 (j := 0) rfl, sc, _, rfl, .inl hS1.sq, _, _, rfl, rfl, _, rfl, ite2 (fun h1 => ?_) (fun h1 => ?_)⟩
  · refine ⟨.ref r, rfl, r, _, 2, .int m, rfl, rfl, .of hH1, at4 (j := 2) rfl, m, 48271, rfl, rfl, .inr ⟨by decide, by decide⟩, _, 11, rfl, rfl, .inl ⟨_, rfl, _, 2147483647, rfl, rfl, (by decide : (0 : Int) < 2147483647), .ref r, rfl, r, _, 2, 2, rfl, rfl, hH1, rfl, ?_⟩⟩
    refine ⟨.ref r, rfl, r, [.ref sc, .int ((n + 1 : Nat) : Int), .int ((m * 48271 + 11) % 2147483647), .int rest], 2, .int ((m * 48271 + 11) % 2147483647), rfl, rfl, .of upd_same, at4 (j := 2) rfl, _, 7, rfl, rfl, ⟨by decide, by decide⟩, .inl ⟨_, rfl, .int many, rfl, _, many, rfl, rfl, by omega, ?_⟩⟩
    exact q _ _ (sb1.trans sb_upd) (RowP.set sc ns (n + 1) ((m * 48271 + 11) % 2147483647) rest hS1 hl1) (md _).1 (md _).2
  · have h1 := of_decide_eq_false (Bool.eq_false_iff.mpr h1)
    have hn : n < ns.length := by rw [List.length_map] at h1; omega
    obtain ⟨c, hc⟩ : ∃ c, ns[n]? = some c := ⟨_, List.getElem?_eq_getElem hn⟩
    have hcV : atI (ns.map V.int) ((((n + 1 : Nat)) : Int) - 1) = some (.int c) := at_of (j := n) (by omega) (by rw [List.getElem?_map, hc]; rfl)
    refine ⟨.ref r, rfl, r, _, 0, .ref sc, rfl, rfl, .of hH1, at4 (j := 0) rfl, .ref r, rfl, r, _, 1, .int ((n + 1 : Nat) : Int), rfl, rfl, .of hH1, at4 (j := 1) rfl, _, 1, rfl, rfl, sc, _, _, .int c, rfl, rfl, hS1.sq, hcV, ?_⟩
    refine ⟨.ref r, rfl, r, _, 2, .int m, rfl, rfl, .of hH1, at4 (j := 2) rfl, m, 48271, rfl, rfl, .inr ⟨by decide, by decide⟩, .int c, rfl, _, c, rfl, rfl, _, 11, rfl, rfl, .inl ⟨_, rfl, _, 2147483647, rfl, rfl, (by decide : (0 : Int) < 2147483647), .ref r, rfl, r, _, 2, 2, rfl, rfl, hH1, rfl, ?_⟩⟩
    obtain ⟨H2, eH2⟩ : ∃ H2, H2 = upd H1 r (.lst [.ref sc, .int ((n + 1 : Nat) : Int), .int ((m * 48271 + c + 11) % 2147483647), .int rest]) := ⟨_, rfl⟩
    have hH2 : H2 r = some (.lst [.ref sc, .int ((n + 1 : Nat) : Int), .int ((m * 48271 + c + 11) % 2147483647), .int rest]) := by rw [eH2]; exact upd_same
    have sb2 : SB r H1 H2 := by rw [eH2]; exact sb_upd
    show (tSeq _ _) _ _ (upd H1 r (.lst [.ref sc, .int ((n + 1 : Nat) : Int), .int ((m * 48271 + c + 11) % 2147483647), .int rest]))
    rw [← eH2]
    have hl2 : isL H2 r := ⟨_, hH2⟩
    have hS2 := hS1.sb hl1 sb2
    refine ⟨.int c, rfl, 10, 18, rfl, rfl, ⟨by decide, by decide, by decide⟩, c, _, rfl, rfl, _, rfl, ite2 (fun h2 => ?_) (fun h2 => ?_)⟩
    · refine ⟨.int c, rfl, .int many, rfl, c, many, rfl, rfl, dv, .ref r, rfl, r, _, 3, 3, rfl, rfl, hH2, rfl, ?_⟩
      refine ⟨.int c, rfl, .inl ⟨c, rfl, .int many, rfl, c, many, rfl, rfl, by omega, ?_⟩⟩
      exact q _ _ ((sb1.trans sb2).trans sb_upd) (RowP.set sc ns (n + 1) _ (c.fdiv many) hS2 hl2) (md _).1 (md _).2
    · refine ⟨.int c, rfl, .inl ⟨c, rfl, .int many, rfl, c, many, rfl, rfl, by omega, ?_⟩⟩
      exact q _ _ (sb1.trans sb2) ⟨sc, ns, n + 1, _, rest, hH2, hS2⟩ (md _).1 (md _).2
/-! ### pick -/
abbrev lPick : Stmt := topS 84
abbrev nlPick : List Str := ["_law_row", "_law_things"]
theorem slPick : FnScope nlPick ["_law_row", "_law_things"] (defScope lPick) := ⟨rfl, rfl, rfl, by decide +kernel, rfl, by decide +kernel, by decide +kernel⟩
def lpPick (K : PySem.W.Frag) : Sp := fun vs H Q _ => ∃ (r a : Addr) (xs : List V), vs = [.ref r, .ref a] ∧ RowP K r H ∧ H a = some (.lst xs) ∧ a ≠ r ∧ 1 ≤ xs.length ∧ xs.length ≤ 1000 ∧ ∀ H' x, SB r H H' → RowP K r H' → x ∈ xs → Q x H'
theorem ol_pick (D : Df K mg "_law_pick" lPick ["_law_row", "_law_things"]) (B : Bi mg) (G : Ok P w K mg base 1 "_law_taken" ["_law_row", "_law_many"] (lpTaken K)) : Ok P w K mg base 2 "_law_pick" ["_law_row", "_law_things"] (lpPick K) := by
  refine D.ok (k := 1) slPick (fun vs H Q E h => by obtain ⟨r, a, p, rfl, _⟩ := h; rfl) fun f cdv A outer s H vs Q E hr h => ?_
  obtain ⟨r, a, xs, rfl, hR, hA, ha, x1, x2, q⟩ := h
  refine ⟨_, pss_one (ps_ret (pe_ix ix_list (pv 1) (pc2 G hr (by rfl) (pv 0) (pb1 call_len_seq B.len bt_len (by rfl) (pv 1))) (fun _ _ => rfl))), ?_⟩
  refine ⟨.ref a, rfl, .ref r, rfl, .ref a, rfl, a, _, rfl, .inl (.of hA), r, _, rfl, hR, by omega, by omega, fun H' x sb hR' h0 h1 => ?_⟩
  obtain ⟨i, rfl⟩ := Int.eq_ofNat_of_zero_le h0
  have hi : i < xs.length := by omega
  refine ⟨a, xs, _, xs[i], rfl, rfl, .of (sb _ _ ha hA), atI_nat (List.getElem?_eq_getElem hi), q _ _ sb hR' (List.getElem_mem hi)⟩
end
end CN
end
section
set_option Elab.async false
set_option linter.all false
set_option maxRecDepth 100000
set_option maxHeartbeats 4000000
namespace CN
open PySem PySem.Spec PyProof.Rows L2 PQ
section
variable {P : Program} {w : World} {K : PySem.W.Frag} {mg : Str → Option Value} {base : Heap}
/-! ### trim -/
abbrev lTrim : Stmt := topS 85
abbrev nlTrim : List Str := ["_law_some_here", "_law_many", "_law_turn"]
theorem slTrim : FnScope nlTrim ["_law_some_here"] (defScope lTrim) := ⟨rfl, rfl, rfl, by decide +kernel, rfl, by decide +kernel, by decide +kernel⟩
theorem ol_trim (D : Df K mg "_law_trim" lTrim ["_law_some_here"]) (B : Bi mg) : Ok P w K mg base 1 "_law_trim" ["_law_some_here"] (fun vs H Q _ => ∃ (a : Addr) (p : List Int), vs = [.ref a] ∧ p.length ≤ 1000 ∧ SqL K H a (p.map V.int) ∧ ∀ H' v, Same H H' → Pl K H' v (trim p) → Q v H') := by
  refine D.ok (k := 0) slTrim (fun vs H Q E h => by obtain ⟨a, p, rfl, _⟩ := h; rfl) fun f cdv A outer s H vs Q E hr h => ?_
  obtain ⟨a, p, rfl, lp, hS, q⟩ := h
  refine ⟨_, pss_cons (ps_set (i := 1) slTrim.nd rfl (.inl rfl) (pb1 call_len_seq B.len bt_len (by rfl) (pv 0)))
    (pss_cons (ps_for PassesOwn.never rfl (pi_range1 (by rfl) B.range (pa_cons (pb1 call_len_seq B.len bt_len (by rfl) (pv 0)) pa_nil)) (pg_name (i := 2) slTrim.nd rfl (.inl rfl))
      (pss_one (ps_if (PW.pt (pw_and (pt_cmpR op_gt (pv 1) pe_int (nomark _)) (pw_and1 (pt_cmpR op_eq (pe_ix ix_list (pv 0) (pe_op op_sub (pv 1) pe_int) (fun _ _ => rfl)) pe_int (nomark _)))))
        (pss_one (ps_set (i := 1) slTrim.nd rfl (.inl rfl) (pe_op op_sub (pv 1) pe_int))) pss_nil)))
    (pss_one (ps_ret (pt1 call_tuple_of B.tuple bt_tuple (by rfl) (pe_slice sl_list (pv 0) po_none (po_some (pv 1))))))), ?_⟩
  have en : (((p.map V.int).length : Nat) : Int).toNat = p.length := by rw [List.length_map]; rfl
  refine ⟨.ref a, rfl, a, _, rfl, .inl hS, .ref a, rfl, a, _, rfl, .inl hS, _, rfl, by rw [List.length_map]; omega, by rw [List.length_map]; omega, ?_⟩
  refine for_range (fun i σ H' => (∃ (m : Nat) (y : Option V), σ = [some (.ref a), some (.int m), y] ∧ m ≤ p.length ∧ (∀ i, m ≤ i → cf p i = 0) ∧ (m + i ≤ p.length ∨ m = 0 ∨ cf p (m - 1) ≠ 0)) ∧ H' = H) ⟨⟨p.length, _, by rw [List.length_map]; rfl, Nat.le_refl _, fun i hi => cf_ge hi, .inl (by omega)⟩, rfl⟩ (fun i σ H' hi z => ?_) fun σ H' z => ?_
  · obtain ⟨⟨m, y, rfl, hm, hz, hc⟩, rfl⟩ := z
    refine ⟨.int m, rfl, m, 0, rfl, rfl, _, rfl, ite2 (fun h0 => ?_) (fun h0 => ?_)⟩
    · have h0 : (0 : Int) < m := of_decide_eq_true h0
      have h1 : m - 1 < p.length := by omega
      refine ⟨.ref a, rfl, .int m, rfl, m, 1, rfl, rfl, a, _, (m : Int) - 1, .int (cf p (m - 1)), rfl, rfl, hS, at_of (j := m - 1) (by omega) (map_at h1), rfl, _, rfl, ite2 (fun h2 => ?_) (fun h2 => ?_)⟩
      · have h2 := of_decide_eq_true h2
        have h2 : cf p (m - 1) = 0 := V.int.inj h2
        refine ⟨.int m, rfl, m, 1, rfl, rfl, ⟨m - 1, _, by rw [show ((m - 1 : Nat) : Int) = (m : Int) - 1 by omega]; rfl, by omega, fun i hi => ?_, ?_⟩, rfl⟩
        · by_cases e : i = m - 1
          · rw [e]; exact h2
          · exact hz i (by omega)
        · rcases hc with hc | hc | hc
          · exact .inl (by omega)
          · omega
          · exact absurd h2 hc
      · have h2 : cf p (m - 1) ≠ 0 := fun e => h2 (decide_eq_true (by rw [e]))
        exact ⟨⟨m, _, rfl, hm, hz, .inr (.inr h2)⟩, rfl⟩
    · have : ¬ (0 : Int) < m := fun z => h0 (decide_eq_true z)
      exact ⟨⟨m, _, rfl, hm, hz, .inr (.inl (by omega))⟩, rfl⟩
  · obtain ⟨⟨m, y, rfl, hm, hz, hc⟩, rfl⟩ := z
    rw [en] at hc
    have h : m = 0 ∨ cf p (m - 1) ≠ 0 := by
      rcases hc with hc | hc
      · exact .inl (by omega)
      · exact hc
    refine ⟨.ref a, rfl, .int m, rfl, m, rfl, a, _, rfl, hS, fun l nl => ⟨l, _, rfl, .inl ⟨SqL.of upd_same, fun t nt => ?_⟩⟩⟩
    refine q _ _ ((same_upd nl).trans (same_upd nt)) ?_
    have e : cutV (p.map V.int) none (some (m : Int)) = (trim p).map V.int := by
      rw [cut_take (by rw [List.length_map]; exact hm), ← List.map_take, trim_of hz h]
    rw [e]
    exact Pl.new
def lpTrim (K : PySem.W.Frag) : Sp := fun vs H Q _ => ∃ (a : Addr) (p : List Int), vs = [.ref a] ∧ p.length ≤ 1000 ∧ SqL K H a (p.map V.int) ∧ ∀ H' v, Same H H' → Pl K H' v (trim p) → Q v H'
/-! ### times -/
abbrev lTimes : Stmt := topS 86
abbrev nlTimes : List Str := ["_law_one", "_law_other", "_law_found", "_law_at", "_law_place"]
theorem slTimes : FnScope nlTimes ["_law_one", "_law_other"] (defScope lTimes) := ⟨rfl, rfl, rfl, by decide +kernel, rfl, by decide +kernel, by decide +kernel⟩
def lpTimes (K : PySem.W.Frag) : Sp := fun vs H Q _ => ∃ (x y : V) (p q : List Int), vs = [x, y] ∧ Pl K H x p ∧ Pl K H y q ∧ p.length ≤ 200 ∧ q.length ≤ 200 ∧ n1 p ≤ 1000 ∧ ∀ H' v, Same H H' → Pl K H' v (trim (pmul p q)) → Q v H'
theorem ol_times (D : Df K mg "_law_times" lTimes ["_law_one", "_law_other"]) (B : Bi mg) (G : Ok P w K mg base 1 "_law_trim" ["_law_some_here"] (lpTrim K)) : Ok P w K mg base 2 "_law_times" ["_law_one", "_law_other"] (lpTimes K) := by
  refine D.ok (k := 1) slTimes (fun vs H Q E h => by obtain ⟨x, y, p, q, rfl, _⟩ := h; rfl) fun f cdv A outer s H vs Q E hr h => ?_
  obtain ⟨x, y, p, q, rfl, ⟨a, rfl, hA⟩, ⟨b, rfl, hB⟩, lp, lq, hm, k⟩ := h
  refine ⟨_, pss_cons (ps_if (PW.pt (pw_or (pt_cmpR (op_eqD hr.units) (pv 0) (pe_tup pa_nil) (nomark _)) (pw_or1 (pt_cmpR (op_eqD hr.units) (pv 1) (pe_tup pa_nil) (nomark _))))) (pss_one (ps_ret (pe_tup pa_nil))) pss_nil)
    (pss_cons (ps_set (i := 2) slTimes.nd rfl (.inl rfl) (pe_op op_rep (pe_lst (pa_cons pe_int pa_nil)) (pe_op op_sub (pe_op op_add (pb1 call_len_seq B.len bt_len (by rfl) (pv 0)) (pb1 call_len_seq B.len bt_len (by rfl) (pv 1))) pe_int)))
    (pss_cons (ps_for PassesOwn.never rfl (pi_range1 (by rfl) B.range (pa_cons (pb1 call_len_seq B.len bt_len (by rfl) (pv 0)) pa_nil)) (pg_name (i := 3) slTimes.nd rfl (.inl rfl))
      (pss_one (ps_for PassesOwn.never rfl (pi_range1 (by rfl) B.range (pa_cons (pb1 call_len_seq B.len bt_len (by rfl) (pv 1)) pa_nil)) (pg_name (i := 4) slTimes.nd rfl (.inl rfl))
        (pss_one (ps_asg (pe_op op_add (pe_ix ix_list (pv 2) (pe_op op_add (pv 3) (pv 4)) (fun _ _ => rfl)) (pe_op op_mul (pe_ix ix_tup (pv 0) (pv 3) (fun _ _ => rfl)) (pe_ix ix_tup (pv 1) (pv 4) (fun _ _ => rfl)))) (pg_sub (pv 2) (pe_op op_add (pv 3) (pv 4)) set_list))))))
    (pss_one (ps_ret (pc1 G hr (by rfl) (pv 2)))))), ?_⟩
  have nilR : (p = [] ∨ q = []) → trim (pmul p q) = [] := fun h => eq_nil_of (trim_ok _) (N := 0) fun x _ => by rw [ev_trim, ev_pmul]; rcases h with rfl | rfl <;> simp
  have retE : (p = [] ∨ q = []) → ∀ H1, Same H H1 → tRet (tTup tNil) { nx := fun _ H' => Q .non H', rt := Q } [some (.ref a), some (.ref b), none, none, none] H1 := fun h H1 s1 => by
    refine ⟨by decide, fun t nt => k _ _ (s1.trans (same_upd nt)) ?_⟩
    rw [nilR h]; exact plNil
  refine ⟨.ref a, rfl, by decide, fun t1 n1 => eq_pl (p := p) (q := []) ⟨a, rfl, same_sqT (same_upd n1) hA⟩ plNil ⟨_, rfl, ite2 (fun h1 => ?_) (fun h1 => ?_)⟩⟩
  · have h1 := of_decide_eq_true h1
    exact iteT (retE (.inl h1) _ (same_upd n1))
  have hp : p ≠ [] := fun e => h1 (decide_eq_true e)
  have s1 := same_upd (o := .tup []) n1
  refine ⟨.ref b, rfl, by decide, fun t2 n2 => eq_pl (p := q) (q := []) ⟨b, rfl, same_sqT (same_upd n2) (same_sqT s1 hB)⟩ plNil ⟨_, rfl, ?_⟩⟩
  have s2 := s1.trans (same_upd (o := .tup []) n2)
  generalize (upd (upd H t1 (.tup [])) t2 (.tup [])) = H2 at s2 ⊢
  refine ite2 (fun h2 => retE (.inr (of_decide_eq_true h2)) _ s2) (fun h2 => ?_)
  have hq : q ≠ [] := fun e => h2 (decide_eq_true e)
  have pl := List.length_pos_iff.mpr hp
  have ql := List.length_pos_iff.mpr hq
  refine ⟨by decide, fun l1 m1 => ⟨.ref a, rfl, a, _, rfl, .inr (same_sqT (s2.trans (same_upd m1)) hA), .ref b, rfl, b, _, rfl, .inr (same_sqT (s2.trans (same_upd m1)) hB), _, _, rfl, rfl, _, _, rfl, rfl, l1, _, _, rfl, rfl, upd_same, ?_⟩⟩
  have e1 : ((((p.map V.int).length : Nat) : Int) + (((q.map V.int).length : Nat) : Int) - 1).toNat = p.length + q.length - 1 := by rw [List.length_map, List.length_map]; omega
  refine ⟨by rw [List.length_map, List.length_map]; omega, by rw [List.length_map, List.length_map]; omega, by rw [e1]; exact small_line (by show 1 * _ ≤ _; omega), fun l m2 => ?_⟩
  have s3 := s2.trans ((same_upd (o := .lst [.int 0]) m1).trans (same_upd (o := .lst (List.replicate ((((p.map V.int).length : Nat) : Int) + (((q.map V.int).length : Nat) : Int) - 1).toNat [V.int 0]).flatten) m2))
  have f3 := upd_same (H := upd H2 l1 (.lst [.int 0])) (a := l) (o := .lst (List.replicate ((((p.map V.int).length : Nat) : Int) + (((q.map V.int).length : Nat) : Int) - 1).toNat [V.int 0]).flatten)
  have nl : H l = none := s2.free (Same.free (same_upd m1) m2)
  generalize upd (upd H2 l1 (.lst [.int 0])) l (.lst (List.replicate ((((p.map V.int).length : Nat) : Int) + (((q.map V.int).length : Nat) : Int) - 1).toNat [V.int 0]).flatten) = H3 at s3 f3 ⊢
  rw [rep_flat, e1] at f3
  have enp : (((p.map V.int).length : Nat) : Int).toNat = p.length := by rw [List.length_map]; rfl
  have enq : (((q.map V.int).length : Nat) : Int).toNat = q.length := by rw [List.length_map]; rfl
  refine ⟨.ref a, rfl, a, _, rfl, .inr (same_sqT s3 hA), _, rfl, by rw [List.length_map]; omega, by rw [List.length_map]; omega, ?_⟩
  rw [enp]
  refine for_range (fun i σ H' => (∃ y3 y4, σ = [some (.ref a), some (.ref b), some (.ref l), y3, y4]) ∧ Same H H' ∧ ∃ found : List Int, H' l = some (.lst (found.map V.int)) ∧ found.length = p.length + q.length - 1 ∧ ∀ x, ev found x = ev (p.take i) x * ev q x)
    ⟨⟨_, _, rfl⟩, s3, _, f3, by rw [List.length_replicate], fun x => by rw [ev_replicate]; simp⟩ (fun i σ H' hi z => ?_) fun σ H' z => ?_
  · obtain ⟨⟨y3, y4, rfl⟩, z1, found, z2, z3, z4⟩ := z
    refine ⟨.ref b, rfl, b, _, rfl, .inr (same_sqT z1 hB), _, rfl, by rw [List.length_map]; omega, by rw [List.length_map]; omega, ?_⟩
    rw [enq, show (0 : Int) + (i : Nat) = (i : Nat) by omega]
    refine for_range (fun j σ H' => (∃ y4, σ = [some (.ref a), some (.ref b), some (.ref l), some (.int i), y4]) ∧ Same H H' ∧ ∃ found : List Int, H' l = some (.lst (found.map V.int)) ∧ found.length = p.length + q.length - 1 ∧ ∀ x, ev found x = ev (p.take i) x * ev q x + cf p i * x ^ i * ev (q.take j) x)
      ⟨⟨_, rfl⟩, z1, found, z2, z3, fun x => by rw [z4]; simp⟩ (fun j σ H' hj z => ?_) fun σ H' z => ?_
    · obtain ⟨⟨y4, rfl⟩, w1, fd, w2, w3, w4⟩ := z
      rw [show (0 : Int) + (j : Nat) = (j : Nat) by omega]
      have hij : i + j < fd.length := by omega
      have hc := cf_le_n1 p i
      refine ⟨.ref l, rfl, .int i, rfl, .int j, rfl, _, _, rfl, rfl, l, _, ((i + j : Nat) : Int), .int (cf fd (i + j)), rfl, congrArg V.int (Int.natCast_add i j).symm, .of w2, atI_nat (map_at hij), .ref a, rfl, .int i, rfl, a, _, _, .int (cf p i), rfl, rfl, same_sqT w1 hA, atI_nat (map_at hi),
        .ref b, rfl, .int j, rfl, b, _, _, .int (cf q j), rfl, rfl, same_sqT w1 hB, atI_nat (map_at hj), _, _, rfl, rfl, .inl ⟨by omega, by omega⟩, _, _, rfl, rfl, ?_⟩
      refine ⟨.ref l, rfl, .int i, rfl, .int j, rfl, _, _, rfl, rfl, l, _, ((i + j : Nat) : Int), i + j, rfl, congrArg V.int (Int.natCast_add i j).symm, w2, by rw [List.length_map]; exact ixN_nat hij, ⟨_, rfl⟩, ?_, fd.set (i + j) (cf fd (i + j) + cf p i * cf q j), ?_, ?_, fun x => ?_⟩
      · intro b' o e
        rw [upd_ne (ne_of_none e nl)]
        exact w1 _ _ e
      · rw [upd_same, List.map_set]
      · rw [List.length_set, w3]
      · rw [ev_set hij, w4, ev_take hj, Int.pow_add]; grind
    · obtain ⟨⟨y4, rfl⟩, w1, fd, w2, w3, w4⟩ := z
      refine ⟨⟨_, _, rfl⟩, w1, fd, w2, w3, fun x => ?_⟩
      rw [w4, ev_take hi, List.take_length]; grind
  · obtain ⟨⟨y3, y4, rfl⟩, z1, found, z2, z3, z4⟩ := z
    refine ⟨.ref l, rfl, l, _, rfl, by omega, .of z2, fun H'' v s'' hv => k _ _ (z1.trans s'') ?_⟩
    rw [trim_ev (q := pmul p q) fun x => by rw [z4, List.take_length, ev_pmul]] at hv
    exact hv
/-! ### shared -/
abbrev lShared : Stmt := topS 87
abbrev nlShared : List Str := ["_law_one", "_law_other", "_law_turn"]
theorem slShared : FnScope nlShared ["_law_one", "_law_other"] (defScope lShared) := ⟨rfl, rfl, rfl, by decide +kernel, rfl, by decide +kernel, by decide +kernel⟩
def lpShared : Sp := fun vs H Q _ => ∃ a b : Int, vs = [.int a, .int b] ∧ b.natAbs ≤ 1000 ∧ Q (.int (Nat.gcd a.natAbs b.natAbs : Nat)) H
theorem ol_shared (D : Df K mg "_law_shared" lShared ["_law_one", "_law_other"]) (B : Bi mg) : Ok P w K mg base 1 "_law_shared" ["_law_one", "_law_other"] lpShared := by
  refine D.ok (k := 0) slShared (fun vs H Q E h => by obtain ⟨a, p, rfl, _⟩ := h; rfl) fun f cdv A outer s H vs Q E hr h => ?_
  obtain ⟨a, b, rfl, lb, q⟩ := h
  refine ⟨_, pss_cons (ps_par (i := 0) (j := 1) rfl slShared.nd rfl rfl (by decide) rfl rfl (pa_cons (pb1 call_abs B.abs bt_abs (by rfl) (pv 0)) (pa_cons (pb1 call_abs B.abs bt_abs (by rfl) (pv 1)) pa_nil)) (by rfl))
    (pss_cons (ps_for PassesOwn.never rfl (pi_range1 (by rfl) B.range (pa_cons pe_int pa_nil)) (pg_name (i := 2) slShared.nd rfl (.inl rfl))
      (pss_cons (ps_if (pt_cmpR op_eq (pv 1) pe_int (nomark _)) (pss_one ps_break) pss_nil)
      (pss_one (ps_par (i := 0) (j := 1) rfl slShared.nd rfl rfl (by decide) rfl rfl (pa_cons (pv 1) (pa_cons (pe_op op_mod (pt1 call_int1 B.int bt_int (by rfl) (pv 0)) (pv 1)) pa_nil)) (by rfl)))))
    (pss_one (ps_ret (pv 0)))), ?_⟩
  have ab : ∀ z : Int, (if z < 0 then -z else z) = ((z.natAbs : Nat) : Int) := fun z => by split <;> omega
  refine ⟨.int a, rfl, a, rfl, .int b, rfl, b, rfl, _, _, rfl, 2000, rfl, by decide, by decide, ?_⟩
  rw [ab, ab]
  refine for_range (fun i σ H' => (∃ (x y : Nat) (z : Option V), σ = [some (.int x), some (.int y), z] ∧ y + i ≤ 1000 ∧ Nat.gcd x y = Nat.gcd a.natAbs b.natAbs) ∧ H' = H) ⟨⟨a.natAbs, b.natAbs, _, rfl, by omega, rfl⟩, rfl⟩ (fun i σ H' hi z => ?_) fun σ H' z => ?_
  · obtain ⟨⟨x, y, z, rfl, hy, hg⟩, rfl⟩ := z
    refine ⟨.int y, rfl, rfl, _, rfl, ite2 (fun h0 => ?_) (fun h0 => ?_)⟩
    · have h0 := V.int.inj (of_decide_eq_true h0)
      have h0 : y = 0 := by omega
      subst h0
      refine ⟨.int x, rfl, ?_⟩
      rw [Nat.gcd_zero_right] at hg
      rw [hg]; exact q
    · have h0 : y ≠ 0 := fun e => h0 (decide_eq_true (by rw [e]; rfl))
      refine ⟨.int y, rfl, .int x, rfl, .inl ⟨x, rfl, .int y, rfl, x, y, rfl, rfl, show (0 : Int) < y by omega, _, _, rfl, ⟨y, x % y, _, rfl, ?_, ?_⟩, rfl⟩⟩
      · have := Nat.mod_lt x (Nat.pos_of_ne_zero h0); omega
      · rw [← hg, Nat.gcd_comm x y, Nat.gcd_rec y x, Nat.gcd_comm]
  · obtain ⟨⟨x, y, z, rfl, hy, hg⟩, rfl⟩ := z
    have : (2000 : Int).toNat = 2000 := rfl
    omega
/-! ### ratio -/
abbrev lRatio : Stmt := topS 88
abbrev nlRatio : List Str := ["_law_top", "_law_bottom", "_law_shared_here"]
theorem slRatio : FnScope nlRatio ["_law_top", "_law_bottom"] (defScope lRatio) := ⟨rfl, rfl, rfl, by decide +kernel, rfl, by decide +kernel, by decide +kernel⟩
def lpRatio (K : PySem.W.Frag) : Sp := fun vs H Q _ => ∃ t b : Int, vs = [.int t, .int b] ∧ 1 ≤ b ∧ b ≤ 1000 ∧ ∀ H' v, Same H H' → Rv K H' v (t.fdiv (Nat.gcd t.natAbs b.natAbs : Nat)) (b.fdiv (Nat.gcd t.natAbs b.natAbs : Nat)) → Q v H'
theorem ol_ratio (D : Df K mg "_law_ratio" lRatio ["_law_top", "_law_bottom"]) (G : Ok P w K mg base 1 "_law_shared" ["_law_one", "_law_other"] lpShared) : Ok P w K mg base 2 "_law_ratio" ["_law_top", "_law_bottom"] (lpRatio K) := by
  refine D.ok (k := 1) slRatio (fun vs H Q E h => by obtain ⟨a, p, rfl, _⟩ := h; rfl) fun f cdv A outer s H vs Q E hr h => ?_
  obtain ⟨t, b, rfl, b1, b2, q⟩ := h
  refine ⟨_, pss_cons (ps_set (i := 2) slRatio.nd rfl (.inl rfl) (pc2 G hr (by rfl) (pv 0) (pv 1)))
    (pss_cons (ps_if (pt_cmpR op_lt (pv 1) pe_int (nomark _)) (pss_one (ps_set (i := 2) slRatio.nd rfl (.inl rfl) (pe_un un_neg (pv 2)))) pss_nil)
    (pss_one (ps_ret (pe_tup (pa_cons (pe_op op_fdivN (pv 0) (pv 2)) (pa_cons (pe_op op_fdivN (pv 1) (pv 2)) pa_nil)))))), ?_⟩
  refine ⟨.int t, rfl, .int b, rfl, t, b, rfl, by omega, ?_⟩
  have g1 : 0 < Nat.gcd t.natAbs b.natAbs := Nat.gcd_pos_of_pos_right _ (by omega)
  have g2 : Nat.gcd t.natAbs b.natAbs ≤ b.natAbs := Nat.gcd_le_right _ (by omega)
  generalize Nat.gcd t.natAbs b.natAbs = g at *
  refine ⟨.int b, rfl, b, 0, rfl, rfl, _, rfl, ?_⟩
  rw [decide_eq_false (by omega : ¬ b < 0)]
  have cd : ∀ z : Int, CDivN z (g : Nat) := fun z => ⟨by omega, by omega⟩
  refine iteF ⟨.int t, rfl, .int (g : Nat), rfl, t, _, rfl, rfl, cd t, .int b, rfl, .int (g : Nat), rfl, b, _, rfl, rfl, cd b, (by decide : 2 ≤ sizeLine), fun l nl => q _ _ (same_upd nl) ⟨l, rfl, .of upd_same⟩⟩
end
end CN
end
section
set_option Elab.async false
set_option linter.all false
set_option maxRecDepth 100000
set_option maxHeartbeats 4000000
namespace CN
open PySem PySem.Spec PyProof.Rows L2 PQ
theorem ne_pl {K : PySem.W.Frag} {H : Hp} {u v : V} {p q : List Int} {Q : VK} (h1 : Pl K H u p) (h2 : Pl K H v q) (h : Q (.bl (!decide (p = q))) H) : rNeD K u v H Q := ⟨_, _, h1.dp, h2.dp, shaped_pl p, shaped_pl q, by rw [eqv_pl]; exact h⟩
theorem pok_of {p : List Int} {d B : Nat} (t : Trim p) (z : Pz p d B) (hd : d ≤ 12) (hB : B ≤ 1000) : Pok p := ⟨t, by have := z.l; omega, Nat.le_trans z.b (Nat.le_trans hB (by decide))⟩
/-- a drawn pair -/
def Drw (T B : List Int) : Prop := ∃ r, Rp r T B ∧ Dr1 r ∧ Pok T ∧ Pok B ∧ B ≠ []
theorem drw_of {T B : List Int} (tT : Trim T) (tB : Trim B) (zT : Pz T 1 8) (zB : Pz B 1 8) (hB : B ≠ []) : Drw T B := by
  have R : Rp (fun x => er T x / er B x) T B := (er_ne' hB tB).mono fun x hx => ⟨hx, by grind⟩
  exact ⟨_, R, ⟨T, B, R, zT, zB⟩, pok_of tT zT (by decide) (by decide), pok_of tB zB (by decide) (by decide), hB⟩
theorem er_trim (p : List Int) (x : Int) : er (trim p) x = er p x := by unfold er; rw [ev_trim]
theorem drw_mul {T B l : List Int} (tB : Trim B) (zT : Pz T 1 8) (zB : Pz B 1 8) (hB : B ≠ []) (tl : Trim l) (hl : l ≠ []) (zl : Pz l 1 9) : Drw (trim (pmul T l)) (trim (pmul B l)) := by
  have e1 := er_ne' hB tB
  have e2 := er_ne' hl tl
  have R : Rp (fun x => er T x / er B x) T B := e1.mono fun x hx => ⟨hx, by grind⟩
  have R2 : Rp (fun x => er T x / er B x) (trim (pmul T l)) (trim (pmul B l)) := (e1.and e2).mono fun x hx => by
    obtain ⟨h1, h2⟩ := hx
    rw [er_trim, er_trim, er_pmul, er_pmul]
    exact ⟨by grind, by grind⟩
  have z : ∀ {p : List Int}, Pz p 1 8 → Pz (trim (pmul p l)) 2 72 := fun h => by
    have z := h.mul zl
    exact ⟨Nat.le_trans (length_trim _) z.l, by rw [n1_trim]; exact z.b⟩
  refine ⟨_, R2, ⟨T, B, R, zT, zB⟩, pok_of (trim_ok _) (z zT) (by decide) (by decide), pok_of (trim_ok _) (z zB) (by decide) (by decide), fun e => ?_⟩
  obtain ⟨x, hx, _⟩ := R2.ex
  apply hx
  rw [e]; simp [er]
theorem pz8 {p : List Int} (l : p.length ≤ 2) (h : ∀ c ∈ p, c.natAbs ≤ 4) : Pz p 1 8 := ⟨l, Nat.le_trans (n1_le_of h) (by omega)⟩
theorem mem_trim {p : List Int} {c : Int} {B : Nat} (h : ∀ c ∈ p, c.natAbs ≤ B) (hp : p.length ≤ 2) (hB : B ≤ 4) : Pz (trim p) 1 8 := ⟨Nat.le_trans (length_trim _) hp, by rw [n1_trim]; exact Nat.le_trans (n1_le_of h) (by have := Nat.mul_le_mul hp hB; omega)⟩
theorem RowP.other {K : PySem.W.Frag} {r l : Addr} {H H' : Hp} (h : RowP K r H) (hl : CN.isL H l) (n : r ≠ l) (e : SB l H H') : RowP K r H' := by
  obtain ⟨sc, ns, n', m, rest, h1, h2⟩ := h
  exact ⟨sc, ns, n', m, rest, e _ _ n h1, h2.sb hl e⟩
theorem RowP.ne {K : PySem.W.Frag} {r l : Addr} {H : Hp} (h : RowP K r H) (n : H l = none) : l ≠ r := fun e => by
  obtain ⟨ys, hl⟩ := h.isL
  rw [e, hl] at n; cases n
/-- v is a function drawn -/
def Dv (K : PySem.W.Frag) (H : Hp) (v : V) : Prop := ∃ f r, Fv K H v f ∧ Is f r ∧ Dr1 r
section
variable {P : Program} {w : World} {K : PySem.W.Frag} {mg : Str → Option Value} {base : Heap}
/-! ### poly -/
abbrev lPoly : Stmt := topS 89
abbrev nlPoly : List Str := ["_law_row", "_law_most", "_law_size", "_law_at"]
theorem slPoly : FnScope nlPoly ["_law_row", "_law_most", "_law_size"] (defScope lPoly) := ⟨rfl, rfl, rfl, by decide +kernel, rfl, by decide +kernel, by decide +kernel⟩
def lpPoly (K : PySem.W.Frag) : Sp := fun vs H Q _ => ∃ (r : Addr), vs = [.ref r, .int 1, .int 4] ∧ RowP K r H ∧ ∀ H' v p, SB r H H' → RowP K r H' → Pl K H' v p → Trim p → Pz p 1 8 → Q v H'
theorem ol_poly (D : Df K mg "_law_poly" lPoly ["_law_row", "_law_most", "_law_size"]) (B : Bi mg) (G : Ok P w K mg base 1 "_law_taken" ["_law_row", "_law_many"] (lpTaken K)) (Gt : Ok P w K mg base 1 "_law_trim" ["_law_some_here"] (lpTrim K)) :
    Ok P w K mg base 2 "_law_poly" ["_law_row", "_law_most", "_law_size"] (lpPoly K) := by
  refine D.ok (k := 1) slPoly (fun vs H Q E h => by obtain ⟨a, rfl, _⟩ := h; rfl) fun f cdv A outer s H vs Q E hr h => ?_
  obtain ⟨r, rfl, hR, k⟩ := h
  refine ⟨_, pss_one (ps_ret (pc1 Gt hr (by rfl) (pe_lc (own := [("_law_at", 3)]) (g := gName 3) (tt := tYes) rfl slPoly.nd (pi_range1 (by rfl) B.range (pa_cons (pc2 G hr (by rfl) (pv 0) (pe_op op_add (pv 1) pe_int)) pa_nil)) (blkOk_by (own := [("_law_at", 3)]) (N := nlPoly) (sc := defScope lPoly) (by decide +kernel))
    (fun _ _ _ _ _ => pg_name (i := 3) slPoly.nd rfl (Or.inl rfl)) (fun _ _ _ _ _ => pts_nil) (fun _ _ _ _ _ => pe_op op_sub (pc2 G hr (by rfl) (pv 0) (pe_op op_add (pe_op op_mul pe_int (pv 2)) pe_int)) (pv 2))))), ?_⟩
  refine ⟨.ref r, rfl, .int 1, rfl, 1, 2, rfl, rfl, r, 3, rfl, hR, by decide, by decide, fun H1 m sb1 R1 m0 m3 => ?_⟩
  refine ⟨m, rfl, by omega, by omega, fun Dl nD => ?_⟩
  have rD : Dl ≠ r := fun e => by
    obtain ⟨ys, hl⟩ := R1.isL
    rw [e, hl] at nD; cases nD
  refine lc_range (fun i H' => SB r H1 H' ∧ RowP K r H' ∧ ∃ p : List Int, p.length = i ∧ (∀ c ∈ p, c.natAbs ≤ 4) ∧ H' Dl = some (.lst (p.map V.int))) ⟨sb_new nD, R1.same (same_upd nD), [], rfl, by simp, upd_same⟩ (fun i H' hi z => ?_) fun H' z => ?_
  · obtain ⟨z1, z2, p, lp, hp, hD⟩ := z
    refine ⟨rfl, .ref r, rfl, .int 4, rfl, 2, 4, rfl, rfl, .inl ⟨by decide, by decide⟩, _, 1, rfl, rfl, r, _, rfl, z2, by decide, by decide, fun H2 x sb2 R2 x0 x9 => ?_⟩
    refine ⟨.int 4, rfl, x, 4, rfl, rfl, _, sb2 _ _ rD hD, ?_, ?_⟩
    · rw [List.length_map]; exact Nat.lt_of_lt_of_le (by omega : p.length < 1000) line1000
    · have hD2 := sb2 _ _ rD hD
      refine ⟨fun b o hb e => by rw [upd_ne (ne_of_none e nD)]; exact (z1.trans sb2) b o hb e, R2.other ⟨_, hD2⟩ (Ne.symm rD) sb_upd, p ++ [x - 4], by simp [lp], fun c hc => ?_, by rw [upd_same, List.map_append]; rfl⟩
      rcases List.mem_append.mp hc with h | h
      · exact hp c h
      · have : c = x - 4 := by simpa using h
        omega
  · obtain ⟨z1, z2, p, lp, hp, hD⟩ := z
    refine ⟨Dl, p, rfl, by omega, .of hD, fun H2 v s2 hv => ?_⟩
    exact k _ _ _ ((sb1.trans z1).trans (same_sb s2)) (z2.same s2) hv (trim_ok _) (mem_trim (c := 0) hp (by omega) (by decide))
/-! ### some -/
abbrev lSome : Stmt := topS 90
abbrev nlSome : List Str := ["_law_row", "_law_most", "_law_size", "_law_one"]
theorem slSome : FnScope nlSome ["_law_row", "_law_most", "_law_size"] (defScope lSome) := ⟨rfl, rfl, rfl, by decide +kernel, rfl, by decide +kernel, by decide +kernel⟩
def lpSome (K : PySem.W.Frag) : Sp := fun vs H Q _ => ∃ (r : Addr), vs = [.ref r, .int 1, .int 4] ∧ RowP K r H ∧ ∀ H' v p, SB r H H' → RowP K r H' → Pl K H' v p → Trim p → Pz p 1 8 → p ≠ [] → Q v H'
theorem ol_some (D : Df K mg "_law_some" lSome ["_law_row", "_law_most", "_law_size"]) (G : Ok P w K mg base 1 "_law_taken" ["_law_row", "_law_many"] (lpTaken K)) (Gp : Ok P w K mg base 2 "_law_poly" ["_law_row", "_law_most", "_law_size"] (lpPoly K)) :
    Ok P w K mg base 3 "_law_some" ["_law_row", "_law_most", "_law_size"] (lpSome K) := by
  refine D.ok (k := 2) slSome (fun vs H Q E h => by obtain ⟨a, rfl, _⟩ := h; rfl) fun f cdv A outer s H vs Q E hr h => ?_
  obtain ⟨r, rfl, hR, k⟩ := h
  refine ⟨_, pss_cons (ps_set (i := 3) slSome.nd rfl (.inl rfl) (pc3 Gp hr (by rfl) (pv 0) (pv 1) (pv 2)))
    (pss_one (ps_ret (pe_ifExp (pt_cmpR (op_neD hr.units) (pv 3) (pe_tup pa_nil) (nomark _)) (pv 3) (pe_tup (pa_cons (pe_op op_add pe_int (pc2 G (hr.mono (by decide)) (by rfl) (pv 0) (pv 2))) pa_nil))))), ?_⟩
  refine ⟨.ref r, rfl, .int 1, rfl, .int 4, rfl, r, rfl, hR, fun H1 v p sb1 R1 hv tp zp => ?_⟩
  refine ⟨v, rfl, by decide, fun t nt => ne_pl (p := p) (q := []) (hv.same (same_upd nt)) plNil ⟨_, rfl, ?_⟩⟩
  have s2 := same_upd (o := .tup []) nt
  generalize upd H1 t (.tup []) = H2 at s2 ⊢
  by_cases hp : p = []
  · rw [decide_eq_true hp]
    refine iteF ⟨.ref r, rfl, .int 4, rfl, r, 4, rfl, R1.same s2, by decide, by decide, fun H3 x sb3 R3 x0 x4 => ⟨1, x, rfl, rfl, (by decide : 1 ≤ sizeLine), fun l nl => ?_⟩⟩
    exact k _ _ [1 + x] ((sb1.trans (same_sb s2)).trans (sb3.trans (sb_new nl))) (R3.same (same_upd nl)) ⟨l, rfl, .of upd_same⟩ (fun _ => by simp [lead]; omega) ⟨by simp, by simp; omega⟩ (by simp)
  · rw [decide_eq_false hp]
    exact iteT ⟨v, rfl, k _ _ p (sb1.trans (same_sb s2)) (R1.same s2) (hv.same s2) tp zp hp⟩
/-! ### linear -/
abbrev lLinear : Stmt := topS 91
abbrev nlLinear : List Str := ["_law_row", "_law_top", "_law_bottom"]
theorem slLinear : FnScope nlLinear ["_law_row"] (defScope lLinear) := ⟨rfl, rfl, rfl, by decide +kernel, rfl, by decide +kernel, by decide +kernel⟩
def lpLinear (K : PySem.W.Frag) : Sp := fun vs H Q _ => ∃ (r : Addr), vs = [.ref r] ∧ RowP K r H ∧ ∀ H' a u z l, SB r H H' → RowP K r H' → SqT K H' a [u, z] → Pl K H' u l → Trim l → l ≠ [] → Pz l 1 9 → Q (.ref a) H'
theorem ol_linear (D : Df K mg "_law_linear" lLinear ["_law_row"]) (G : Ok P w K mg base 1 "_law_taken" ["_law_row", "_law_many"] (lpTaken K)) (Gp : Ok P w K mg base 2 "_law_pick" ["_law_row", "_law_things"] (lpPick K)) (Gr : Ok P w K mg base 2 "_law_ratio" ["_law_top", "_law_bottom"] (lpRatio K)) :
    Ok P w K mg base 3 "_law_linear" ["_law_row"] (lpLinear K) := by
  refine D.ok (k := 2) slLinear (fun vs H Q E h => by obtain ⟨a, rfl, _⟩ := h; rfl) fun f cdv A outer s H vs Q E hr h => ?_
  obtain ⟨r, rfl, hR, k⟩ := h
  refine ⟨_, pss_cons (ps_par (i := 1) (j := 2) rfl slLinear.nd rfl rfl (by decide) rfl rfl (pa_cons (pe_op op_sub (pc2 G (hr.mono (by decide)) (by rfl) (pv 0) pe_int) pe_int) (pa_cons (pc2 Gp hr (by rfl) (pv 0) (pe_lst (pa_cons pe_int (pa_cons pe_int (pa_cons pe_int (pa_cons pe_int pa_nil)))))) pa_nil)) (by rfl))
    (pss_one (ps_ret (pe_tup (pa_cons (pe_tup (pa_cons (pe_un un_neg (pv 1)) (pa_cons (pv 2) pa_nil))) (pa_cons (pc2 Gr hr (by rfl) (pv 1) (pv 2)) pa_nil))))), ?_⟩
  refine ⟨.ref r, rfl, r, 13, rfl, hR, by decide, by decide, fun H1 x sb1 R1 x0 x1 => ⟨x, 6, rfl, rfl, .ref r, rfl, (by decide : 4 ≤ sizeLine), fun l nl => ?_⟩⟩
  have ln := R1.ne nl
  refine ⟨r, l, _, rfl, R1.same (same_upd nl), upd_same, ln, (by decide : 1 ≤ 4), (by decide : 4 ≤ 1000), fun H2 b sb2 R2 hb => ?_⟩
  obtain ⟨b', rfl, b1, b2⟩ : ∃ b' : Int, b = .int b' ∧ 1 ≤ b' ∧ b' ≤ 3 := by
    simp only [List.mem_cons, List.not_mem_nil, or_false] at hb
    rcases hb with rfl | rfl | rfl | rfl
    · exact ⟨1, rfl, by decide, by decide⟩
    · exact ⟨1, rfl, by decide, by decide⟩
    · exact ⟨2, rfl, by decide, by decide⟩
    · exact ⟨3, rfl, by decide, by decide⟩
  have sb12 := sb1.trans ((sb_new nl).trans sb2)
  refine ⟨_, _, rfl, .int (x - 6), rfl, x - 6, rfl, .int b', rfl, (by decide : 2 ≤ sizeLine), fun t nt => ?_⟩
  refine ⟨.int (x - 6), rfl, .int b', rfl, x - 6, b', rfl, b1, by omega, fun H3 v s3 hv => ⟨(by decide : 2 ≤ sizeLine), fun t2 nt2 => ?_⟩⟩
  have s4 := (same_upd (o := .tup [.int (-(x - 6)), .int b']) nt).trans (s3.trans (same_upd (o := .tup [.ref t, v]) nt2))
  have hl : Pl K (upd H2 t (.tup [.int (-(x - 6)), .int b'])) (.ref t) [-(x - 6), b'] := ⟨t, rfl, .of upd_same⟩
  exact k _ t2 (.ref t) v [-(x - 6), b'] (sb12.trans (same_sb s4)) (R2.same s4) (.of upd_same) (hl.same (s3.trans (same_upd nt2))) (fun _ => by simp [lead]; omega) (by simp) ⟨by simp, by simp; omega⟩
/-! ### draw -/
abbrev lDraw : Stmt := topS 92
abbrev nlDraw : List Str := ["_law_row", "_law_most", "_law_top", "_law_bottom", "_law_shared_here"]
theorem slDraw : FnScope nlDraw ["_law_row", "_law_most"] (defScope lDraw) := ⟨rfl, rfl, rfl, by decide +kernel, rfl, by decide +kernel, by decide +kernel⟩
def lpDraw (K : PySem.W.Frag) : Sp := fun vs H Q _ => ∃ (r : Addr), vs = [.ref r, .int 1] ∧ RowP K r H ∧ ∀ H' a u z T B, SB r H H' → RowP K r H' → SqT K H' a [u, z] → Pl K H' u T → Pl K H' z B → Drw T B → Q (.ref a) H'
theorem ol_draw (D : Df K mg "_law_draw" lDraw ["_law_row", "_law_most"]) (G : Ok P w K mg base 1 "_law_taken" ["_law_row", "_law_many"] (lpTaken K)) (Gp : Ok P w K mg base 2 "_law_poly" ["_law_row", "_law_most", "_law_size"] (lpPoly K))
    (Gs : Ok P w K mg base 3 "_law_some" ["_law_row", "_law_most", "_law_size"] (lpSome K)) (Gl : Ok P w K mg base 3 "_law_linear" ["_law_row"] (lpLinear K)) (Gt : Ok P w K mg base 2 "_law_times" ["_law_one", "_law_other"] (lpTimes K)) :
    Ok P w K mg base 4 "_law_draw" ["_law_row", "_law_most"] (lpDraw K) := by
  refine D.ok (k := 3) slDraw (fun vs H Q E h => by obtain ⟨a, rfl, _⟩ := h; rfl) fun f cdv A outer s H vs Q E hr h => ?_
  obtain ⟨r, rfl, hR, k⟩ := h
  refine ⟨_, pss_cons (ps_par (i := 2) (j := 3) rfl slDraw.nd rfl rfl (by decide) rfl rfl (pa_cons (pc3 Gp (hr.mono (by decide)) (by rfl) (pv 0) (pv 1) pe_int) (pa_cons (pc3 Gs hr (by rfl) (pv 0) (pv 1) pe_int) pa_nil)) (by rfl))
    (pss_cons (ps_if (pt_cmpR op_eq (pc2 G (hr.mono (by decide)) (by rfl) (pv 0) pe_int) pe_int (nomark _))
      (pss_cons (ps_set (i := 4) slDraw.nd rfl (.inl rfl) (pe_ix ix_tup (pc1 Gl hr (by rfl) (pv 0)) pe_int (fun _ _ => rfl)))
      (pss_one (ps_par (i := 2) (j := 3) rfl slDraw.nd rfl rfl (by decide) rfl rfl (pa_cons (pc2 Gt (hr.mono (by decide)) (by rfl) (pv 2) (pv 4)) (pa_cons (pc2 Gt (hr.mono (by decide)) (by rfl) (pv 3) (pv 4)) pa_nil)) (by rfl)))) pss_nil)
    (pss_one (ps_ret (pe_tup (pa_cons (pv 2) (pa_cons (pv 3) pa_nil)))))), ?_⟩
  refine ⟨.ref r, rfl, .int 1, rfl, r, rfl, hR, fun H1 u T sb1 R1 hu tT zT => ⟨.ref r, rfl, .int 1, rfl, r, rfl, R1, fun H2 z B sb2 R2 hz tB zB hB => ⟨_, _, rfl, ?_⟩⟩⟩
  have hu2 := hu.sb R1.isL sb2
  refine ⟨.ref r, rfl, r, 3, rfl, R2, by decide, by decide, fun H3 x sb3 R3 x0 x3 => ⟨rfl, _, rfl, ?_⟩⟩
  have hu3 := hu2.sb R2.isL sb3
  have hz3 := hz.sb R2.isL sb3
  have sb13 := sb1.trans (sb2.trans sb3)
  refine ite2 (fun h => ?_) (fun h => ?_)
  · refine ⟨.ref r, rfl, r, rfl, R3, fun H4 a y y' l sb4 R4 hA hy tl hl zl => ⟨a, _, 0, y, rfl, rfl, hA, atI_nat (j := 0) rfl, ?_⟩⟩
    have hu4 := hu3.sb R3.isL sb4
    have hz4 := hz3.sb R3.isL sb4
    refine ⟨u, rfl, y, rfl, u, y, T, l, rfl, hu4, hy, by have := zT.l; omega, by have := zl.l; omega, by have := zT.b; omega, fun H5 v s5 hv => ⟨z, rfl, y, rfl, z, y, B, l, rfl, hz4.same s5, hy.same s5, by have := zB.l; omega, by have := zl.l; omega, by have := zB.b; omega, fun H6 v2 s6 hv2 => ⟨_, _, rfl, ?_⟩⟩⟩
    refine ⟨v, rfl, v2, rfl, (by decide : 2 ≤ sizeLine), fun t nt => ?_⟩
    have s56 := (s5.trans s6).trans (same_upd (o := .tup [v, v2]) nt)
    exact k _ t v v2 _ _ ((sb13.trans sb4).trans (same_sb s56)) (R4.same s56) (.of upd_same) ((hv.same s6).same (same_upd nt)) (hv2.same (same_upd nt)) (drw_mul tB zT zB hB tl hl zl)
  · refine ⟨u, rfl, z, rfl, (by decide : 2 ≤ sizeLine), fun t nt => ?_⟩
    have s5 := same_upd (o := .tup [u, z]) nt
    exact k _ t u z T B (sb13.trans (same_sb s5)) (R3.same s5) (.of upd_same) (hu3.same s5) (hz3.same s5) (drw_of tT tB zT zB hB)
/-! ### worth -/
abbrev lWorth : Stmt := topS 93
theorem slWorth : FnScope ["_law_row"] ["_law_row"] (defScope lWorth) := ⟨rfl, rfl, rfl, by decide +kernel, rfl, by decide +kernel, by decide +kernel⟩
def lpWorth (K : PySem.W.Frag) : Sp := fun vs H Q _ => ∃ (r : Addr), vs = [.ref r] ∧ RowP K r H ∧ ∀ H' v t b, SB r H H' → RowP K r H' → Rv K H' v t b → Wt t b → Q v H'
theorem wt_of {t b : Int} (t1 : 1 ≤ t) (t6 : t ≤ 6) (b1 : 1 ≤ b) (b4 : b ≤ 4) : Wt (t.fdiv (Nat.gcd t.natAbs b.natAbs : Nat)) (b.fdiv (Nat.gcd t.natAbs b.natAbs : Nat)) := by
  have ht : t = 1 ∨ t = 2 ∨ t = 3 ∨ t = 4 ∨ t = 5 ∨ t = 6 := by omega
  have hb : b = 1 ∨ b = 2 ∨ b = 3 ∨ b = 4 := by omega
  rcases ht with rfl | rfl | rfl | rfl | rfl | rfl <;> rcases hb with rfl | rfl | rfl | rfl <;> exact ⟨by decide, by decide, by decide, by decide, by decide⟩
theorem ol_worth (D : Df K mg "_law_worth" lWorth ["_law_row"]) (G : Ok P w K mg base 1 "_law_taken" ["_law_row", "_law_many"] (lpTaken K)) (Gr : Ok P w K mg base 2 "_law_ratio" ["_law_top", "_law_bottom"] (lpRatio K)) :
    Ok P w K mg base 3 "_law_worth" ["_law_row"] (lpWorth K) := by
  refine D.ok (k := 2) slWorth (fun vs H Q E h => by obtain ⟨a, rfl, _⟩ := h; rfl) fun f cdv A outer s H vs Q E hr h => ?_
  obtain ⟨r, rfl, hR, k⟩ := h
  refine ⟨_, pss_one (ps_ret (pc2 Gr hr (by rfl) (pe_op op_add pe_int (pc2 G (hr.mono (by decide)) (by rfl) (pv 0) pe_int)) (pe_op op_add pe_int (pc2 G (hr.mono (by decide)) (by rfl) (pv 0) pe_int)))), ?_⟩
  refine ⟨.ref r, rfl, r, 6, rfl, hR, by decide, by decide, fun H1 x sb1 R1 x0 x6 => ⟨1, x, rfl, rfl, .ref r, rfl, r, 4, rfl, R1, by decide, by decide, fun H2 y sb2 R2 y0 y4 => ⟨1, y, rfl, rfl, 1 + x, 1 + y, rfl, by omega, by omega, fun H3 v s3 hv => ?_⟩⟩⟩
  exact k _ _ _ _ ((sb1.trans sb2).trans (same_sb s3)) (R2.same s3) hv (wt_of (by omega) (by omega) (by omega) (by omega))
end
end CN
end
section
set_option Elab.async false
set_option linter.all false
set_option maxRecDepth 100000
set_option maxHeartbeats 4000000
namespace CN
open PySem PySem.Spec PyProof.Rows L2 PQ
def tInts : List Int → TA
  | [] => tNil
  | c :: p => tCons (tC (.int c)) (tInts p)
theorem tInts_rd {σ : L2.St} {H : Hp} : ∀ (p : List Int) {Q : List V → Hp → Prop}, Q (p.map V.int) H → tInts p σ H Q
  | [], _, h => h
  | c :: p, _, h => tInts_rd p (Q := fun vs H => _) h
/-- a function written out -/
def tFw (K : PySem.W.Frag) (f : Fn) : TE := fun _ H Q => ∀ H' a, Same H H' → Fv K H' (.ref a) f → Q (.ref a) H'
theorem pe_fnK {X : Cx} {e : Expr} (p q : List Int) (h : PE X e (tTup (tCons (tTup (tInts p)) (tCons (tTup (tInts q)) tNil)))) (lp : p.length ≤ 100 := by decide) (lq : q.length ≤ 100 := by decide) : PE X e (tFw X.K (p, q)) := by
  refine PE.imp h fun σ H Q k => ?_
  refine tInts_rd p ⟨by rw [List.length_map]; exact small_line (by omega), fun a na => tInts_rd q ⟨by rw [List.length_map]; exact small_line (by omega), fun b nb => ⟨(by decide : 2 ≤ sizeLine), fun c nc => ?_⟩⟩⟩
  have s1 := same_upd (o := .tup (p.map V.int)) na
  have s2 := same_upd (o := .tup (q.map V.int)) nb
  have s3 := same_upd (o := .tup [.ref a, .ref b]) nc
  exact k _ c ((s1.trans s2).trans s3) ⟨c, _, _, rfl, .of upd_same, (Pl.new (K := X.K)).same (s2.trans s3), (Pl.new (K := X.K)).same s3⟩
theorem nz_one : Nz fun _ => 1 := .all fun _ => by show (1 : Rat) ≠ 0; decide
theorem dr_one : Dr1 fun _ => 1 := ⟨[1], [1], .all fun x => by simp [er], ⟨by decide, by decide⟩, ⟨by decide, by decide⟩⟩
theorem dr_zero : Dr1 fun _ => 0 := ⟨[], [1], .all fun x => by simp [er], ⟨by decide, by decide⟩, ⟨by decide, by decide⟩⟩
theorem dr_var : Dr1 fun x => (x : Rat) := ⟨[0, 1], [1], .all fun x => by simp [er], ⟨by decide, by decide⟩, ⟨by decide, by decide⟩⟩
theorem dr_default : Plan (fun _ => 1) (fun x => (x : Rat)) (fun _ => 0) (fun _ => 1) :=
  (Drn.mk dr_one dr_var dr_zero dr_one).plan (.all fun x => by show (1 : Rat) * 1 - (x : Rat) * 0 ≠ 0; grind)
theorem Dv.sb {K : PySem.W.Frag} {H H' : Hp} {r : Addr} {v : V} (h : Dv K H v) (hl : isL H r) (e : SB r H H') : Dv K H' v := let ⟨f, g, h1, h2, h3⟩ := h; ⟨f, g, h1.sb hl e, h2, h3⟩
theorem zero_or {f : Fn} {r : Int → Rat} (I : Is f r) : (f = ([], [1]) ∧ Evt fun x => r x = 0) ∨ (f ≠ ([], [1]) ∧ Nz r) := by
  by_cases h : f = ([], [1])
  · exact .inl ⟨h, (zero_iff I).1 h⟩
  · exact .inr ⟨h, I.ne h⟩
/-- the pair drawn at a turn -/
def tFirst (K : PySem.W.Frag) : TE := fun σ H Q => ∃ r : Addr, σ[0]? = some (some (.ref r)) ∧ RowP K r H ∧ ∀ H' a u z T Bt, SB r H H' → RowP K r H' → SqT K H' a [u, z] → Pl K H' u T → Pl K H' z Bt → Drw T Bt → Q (.ref a) H'
theorem first_rd {K : PySem.W.Frag} {σ : L2.St} {H : Hp} {Q : VK} (h : tFirst K σ H Q) :
    tIf (tTest (tOp (rI0 fun i j => V.bl (decide (j < i))) (t2 (fun vs H Q => lpTaken K vs H Q E0) (tVar 0) (tC (.int 4))) (tC (.int 0)))) (t2 (fun vs H Q => lpDraw K vs H Q E0) (tVar 0) (tC (.int 1))) (tFw K ([], [1])) σ H Q := by
  obtain ⟨r, h0, hR, k⟩ := h
  refine ⟨.ref r, h0, r, 4, rfl, hR, by decide, by decide, fun H1 x sb1 R1 x0 x4 => ⟨x, 0, rfl, rfl, _, rfl, ite2 (fun _ => ?_) (fun _ => ?_)⟩⟩
  · exact ⟨.ref r, h0, r, rfl, R1, fun H2 a u z T Bt sb2 R2 hA hT hB hD => k _ _ _ _ _ _ (sb1.trans sb2) R2 hA hT hB hD⟩
  · intro H2 a s2 hF
    obtain ⟨a', u, z, e, h1, h2, h3⟩ := hF
    cases e
    exact k _ _ _ _ _ _ (sb1.trans (same_sb s2)) (R1.same s2) h1 h2 h3 (drw_of (fun e => absurd rfl e) (fun _ => by decide) ⟨by decide, by decide⟩ ⟨by decide, by decide⟩ (by decide))
section
variable {P : Program} {w : World} {K : PySem.W.Frag} {mg : Str → Option Value} {base : Heap}
abbrev lChain : Stmt := topS 94
abbrev nlChain : List Str := ["_law_row", "_law_some_here", "_law_turn", "_law_first"]
theorem slChain : FnScope nlChain ["_law_row"] (defScope lChain) := ⟨rfl, rfl, rfl, by decide +kernel, rfl, by decide +kernel, by decide +kernel⟩
def lpChain (K : PySem.W.Frag) : Sp := fun vs H Q _ => ∃ (r : Addr), vs = [.ref r] ∧ RowP K r H ∧ ∀ H' v a b c d, SB r H H' → RowP K r H' → ChV K H' v a b c d → Plan a b c d → Q v H'
theorem ol_chain (D : Df K mg "_law_chain" lChain ["_law_row"]) (B : Bi mg) (G : Ok P w K mg base 1 "_law_taken" ["_law_row", "_law_many"] (lpTaken K)) (Gd : Ok P w K mg base 4 "_law_draw" ["_law_row", "_law_most"] (lpDraw K)) (Gf : Ok P w K mg base 36 "function" ["top", "bottom"] (spFunction K))
    (Gm : Ok P w K mg base 38 "multiply" ["one", "other"] (spChk K (· * ·))) (Gs : Ok P w K mg base 38 "subtract" ["one", "other"] (spChk K (· - ·))) : Ok P w K mg base 39 "_law_chain" ["_law_row"] (lpChain K) := by
  refine D.ok (k := 38) slChain (fun vs H Q E h => by obtain ⟨a, rfl, _⟩ := h; rfl) fun f cdv A outer s H vs Q E hr h => ?_
  obtain ⟨r, rfl, hR, k⟩ := h
  refine ⟨_, pss_cons (ps_set (i := 1) slChain.nd rfl (.inl rfl) (pe_lst pa_nil))
    (pss_cons (ps_for PassesOwn.never rfl (pi_range1 (by rfl) B.range (pa_cons pe_int pa_nil)) (pg_name (i := 2) slChain.nd rfl (.inl rfl))
      (pss_cons (ps_set (i := 3) slChain.nd rfl (.inl rfl) (PE.imp (pe_ifExp (pt_cmpR op_gt (pc2 G (hr.mono (by decide)) (by rfl) (pv 0) pe_int) pe_int (nomark _)) (pc2 Gd (hr.mono (by decide)) (by rfl) (pv 0) pe_int) (pe_fnK [] [1] (pe_tup (pa_cons (pe_tup pa_nil) (pa_cons (pe_tup (pa_cons pe_int pa_nil)) pa_nil))))) (fun σ H Q z => first_rd z)))
      (pss_one (ps_expr (pe_bm PySem.F.plainAttrs_list PySem.F.slot_list_append PySem.F.type_list_append mt_append (pv 1) (pa_cons (pc2 Gf (hr.mono (by decide)) (by rfl) (pe_ix ix_tup (pv 3) pe_int (fun _ _ => rfl)) (pe_ix ix_tup (pv 3) pe_int (fun _ _ => rfl))) pa_nil))))))
    (pss_cons (ps_if (pt_cmpR (op_eqD hr.units) (pc2 Gs hr (by rfl) (pc2 Gm hr (by rfl) (pe_ix ix_list (pv 1) pe_int (fun _ _ => rfl)) (pe_ix ix_list (pv 1) pe_int (fun _ _ => rfl))) (pc2 Gm hr (by rfl) (pe_ix ix_list (pv 1) pe_int (fun _ _ => rfl)) (pe_ix ix_list (pv 1) pe_int (fun _ _ => rfl))))
        (pe_fnK [] [1] (pe_tup (pa_cons (pe_tup pa_nil) (pa_cons (pe_tup (pa_cons pe_int pa_nil)) pa_nil)))) (nomark _))
      (pss_one (ps_ret (pe_tup (pa_cons (pe_fnK [1] [1] (pe_tup (pa_cons (pe_tup (pa_cons pe_int pa_nil)) (pa_cons (pe_tup (pa_cons pe_int pa_nil)) pa_nil)))) (pa_cons (pe_fnK [0, 1] [1] (pe_tup (pa_cons (pe_tup (pa_cons pe_int (pa_cons pe_int pa_nil))) (pa_cons (pe_tup (pa_cons pe_int pa_nil)) pa_nil))))
        (pa_cons (pe_fnK [] [1] (pe_tup (pa_cons (pe_tup pa_nil) (pa_cons (pe_tup (pa_cons pe_int pa_nil)) pa_nil)))) (pa_cons (pe_fnK [1] [1] (pe_tup (pa_cons (pe_tup (pa_cons pe_int pa_nil)) (pa_cons (pe_tup (pa_cons pe_int pa_nil)) pa_nil)))) pa_nil))))))) pss_nil)
    (pss_one (ps_ret (pt1 call_tuple_of B.tuple bt_tuple (by rfl) (pv 1)))))), ?_⟩
  refine ⟨(by decide : 0 ≤ sizeLine), fun l nl => ⟨4, rfl, by decide, by decide, ?_⟩⟩
  have lr := hR.ne nl
  refine for_range (fun i σ H' => (∃ y2 y3, σ = [some (.ref r), some (.ref l), y2, y3]) ∧ SB r H H' ∧ RowP K r H' ∧ ∃ us : List V, H' l = some (.lst us) ∧ us.length = i ∧ ∀ u ∈ us, Dv K H' u) ⟨⟨_, _, rfl⟩, sb_new nl, hR.same (same_upd nl), [], upd_same, rfl, by simp⟩ (fun i σ H' hi z => ?_) fun σ H' z => ?_
  · obtain ⟨⟨y2, y3, rfl⟩, sb1, R1, us, hl, lu, hu⟩ := z
    have hi4 : i < 4 := hi
    refine ⟨r, rfl, R1, fun H2 a u z T Bt sb2 R2 hA hT hB hD => ?_⟩
    have hl2 := sb2 _ _ lr hl
    have hu2 : ∀ u ∈ us, Dv K H2 u := fun u h => (hu u h).sb R1.isL sb2
    obtain ⟨g, Rg, Dg, pT, pB, nB⟩ := hD
    refine ⟨.ref l, rfl, .inl ⟨rfl, _, SqL.of hl2⟩, .ref a, rfl, a, _, 0, u, rfl, rfl, hA, atI_nat (j := 0) rfl, .ref a, rfl, a, _, 1, z, rfl, rfl, hA, atI_nat (j := 1) rfl, u, z, T, Bt, rfl, hT, hB, pT, pB, nB, fun H3 v f3 s3 hv Mv => ?_⟩
    have hl3 := s3 _ _ hl2
    have R3 := R2.same s3
    have hu3 : ∀ u ∈ us ++ [v], Dv K H3 u := fun u h => by
      rcases List.mem_append.mp h with h | h
      · exact (hu2 u h).sb R2.isL (same_sb s3)
      · have e : u = v := by simpa using h
        rw [e]; exact ⟨f3, g, hv, Mv.is Rg, Dg⟩
    refine ⟨l, us, v, rfl, rfl, hl3, Nat.lt_of_lt_of_le (by omega : us.length < 1000) line1000, ⟨_, _, rfl⟩, fun b o hb e => ?_, R3.other ⟨_, hl3⟩ (Ne.symm lr) sb_upd, us ++ [v], upd_same, by simp [lu], fun u h => (hu3 u h).sb ⟨_, hl3⟩ sb_upd⟩
    rw [upd_ne (ne_of_none e nl)]
    exact s3 _ _ (sb2 _ _ hb (sb1 _ _ hb e))
  · obtain ⟨⟨y2, y3, rfl⟩, sb1, R1, us, hl, lu, hu⟩ := z
    have lu : us.length = 4 := lu
    obtain ⟨u1, u2, u3, u4, rfl⟩ : ∃ u1 u2 u3 u4, us = [u1, u2, u3, u4] := by
      match us, lu with
      | [u1, u2, u3, u4], _ => exact ⟨_, _, _, _, rfl⟩
    obtain ⟨f1, a, h1, I1, D1⟩ := hu u1 (by simp)
    obtain ⟨f2, b, h2, I2, D2⟩ := hu u2 (by simp)
    obtain ⟨f3, c, h3, I3, D3⟩ := hu u3 (by simp)
    obtain ⟨f4, d, h4, I4, D4⟩ := hu u4 (by simp)
    have dr : Drn a b c d := ⟨D1, D2, D3, D4⟩
    have Bs := dr.base
    refine ⟨.ref l, rfl, l, _, 0, u1, rfl, rfl, .of hl, atI_nat (j := 0) rfl, .ref l, rfl, l, _, 3, u4, rfl, rfl, .of hl, atI_nat (j := 3) rfl, ?_⟩
    refine ⟨u1, u4, f1, f4, a, d, 3, 3, 31, 31, 6, 71, rfl, h1, h4, I1, I4, Bs.sa, Bs.sd, by omega, by omega, by omega, by omega, Bs.ad, by omega, fun H2 v1 g1 s2 hv1 J1 => ?_⟩
    have hl2 := s2 _ _ hl
    refine ⟨.ref l, rfl, l, _, 1, u2, rfl, rfl, .of hl2, atI_nat (j := 1) rfl, .ref l, rfl, l, _, 2, u3, rfl, rfl, .of hl2, atI_nat (j := 2) rfl, ?_⟩
    refine ⟨u2, u3, f2, f3, b, c, 3, 3, 31, 31, 6, 71, rfl, h2.same s2, h3.same s2, I2, I3, Bs.sb, Bs.sc, by omega, by omega, by omega, by omega, Bs.bc, by omega, fun H3 v2 g2 s3 hv2 J2 => ?_⟩
    refine ⟨v1, v2, g1, g2, _, _, 6, 6, 71, 71, 4, 44, rfl, hv1.same s3, hv2, J1, J2, Bs.ad, Bs.bc, by omega, by omega, by omega, by omega, Bs.m, by omega, fun H4 v3 g3 s4 hv3 J3 => ?_⟩
    intro H5 z0 s5 hz0
    refine eq_fn (hv3.same s5) hz0 ⟨_, rfl, ?_⟩
    have s25 := (s2.trans s3).trans (s4.trans s5)
    have R5 := R1.same s25
    rcases zero_or J3 with ⟨e, _⟩ | ⟨e, nz⟩
    · rw [decide_eq_true e]
      refine iteT ?_
      intro H6 z1 s6 hz1 H7 z2 s7 hz2 H8 z3 s8 hz3 H9 z4 s9 hz4
      refine ⟨(by decide : 4 ≤ sizeLine), fun t nt => ?_⟩
      have st := same_upd (o := .tup [.ref z1, .ref z2, .ref z3, .ref z4]) nt
      have s6t := ((s6.trans s7).trans (s8.trans s9)).trans st
      exact k _ _ _ _ _ _ (sb1.trans (same_sb (s25.trans s6t))) (R5.same s6t) ⟨t, _, _, _, _, _, _, _, _, rfl, .of upd_same, hz1.same (((s7.trans s8).trans s9).trans st), hz2.same ((s8.trans s9).trans st), hz3.same (s9.trans st), hz4.same st, is_one, is_var, is_zero, is_one⟩ dr_default
    · rw [decide_eq_false e]
      have hl5 := s25 _ _ hl
      refine iteF ⟨.ref l, rfl, l, _, rfl, .inl ⟨.of hl5, fun t nt => ?_⟩⟩
      have st := same_upd (o := .tup [u1, u2, u3, u4]) nt
      have s2t := s25.trans st
      exact k _ _ _ _ _ _ (sb1.trans (same_sb s2t)) (R1.same s2t) ⟨t, _, _, _, _, _, _, _, _, rfl, .of upd_same, h1.same s2t, h2.same s2t, h3.same s2t, h4.same s2t, I1, I2, I3, I4⟩ (dr.plan nz)
end
end CN
end
section
set_option Elab.async false
set_option linter.all false
set_option maxRecDepth 100000
set_option maxHeartbeats 4000000
namespace PQ
def bk : Int → Rat := fun _ => -1
theorem sb_fr : Sb fr 1 6 := ⟨[1], [1, 1], 2, evt_L.mono fun x hx => ⟨hx.1, by rw [hx.2]; simp [er]⟩, ⟨by decide, by decide⟩, ⟨by decide, by decide⟩, by decide⟩
theorem sb_bk : Sb bk 0 0 := ⟨[-1], [1], 1, .all fun x => ⟨by simp [er], by simp [er, bk]⟩, ⟨by decide, by decide⟩, ⟨by decide, by decide⟩, by decide⟩
theorem sb_one : Sb (fun _ => 1) 0 0 := ⟨[1], [1], 1, .all fun x => ⟨by simp [er], by simp [er]⟩, ⟨by decide, by decide⟩, ⟨by decide, by decide⟩, by decide⟩
theorem sb_zero : Sb (fun _ => 0) 0 0 := ⟨[], [1], 1, .all fun x => ⟨by simp [er], by simp [er]⟩, ⟨by decide, by decide⟩, ⟨by decide, by decide⟩, by decide⟩
theorem Sb.bk {r : Int → Rat} {d b : Nat} (h : Sb r d b) : Sb (fun x => r x * PQ.bk x) d b := h.neg.congr (.all fun x => by show 0 - r x = r x * (-1); grind)
end PQ
namespace CN
open PySem PySem.Spec PyProof.Rows L2 PQ
theorem ScrS.same {K : PySem.W.Frag} {H H' : Hp} {a : Addr} {xs : List V} (h : ScrS K H a xs) (e : Same H H') : ScrS K H' a xs := by
  rcases h with ⟨o, h⟩ | h
  · exact .inl ⟨o, e _ _ h⟩
  · exact .inr h
/-- u is the function of the germ r -/
def Gr (K : PySem.W.Frag) (H : Hp) (u : V) (r : Int → Rat) : Prop := ∃ f, Fv K H u f ∧ Is f r
theorem Gr.same {K : PySem.W.Frag} {H H' : Hp} {u : V} {r : Int → Rat} (h : Gr K H u r) (e : Same H H') : Gr K H' u r := let ⟨f, h1, h2⟩ := h; ⟨f, h1.same e, h2⟩
theorem Gr.congr {K : PySem.W.Frag} {H : Hp} {u : V} {r s : Int → Rat} (h : Gr K H u r) (e : Evt fun x => r x = s x) : Gr K H u s := let ⟨f, h1, h2⟩ := h; ⟨f, h1, h2.congr e⟩
/-- comparing two functions of one germ -/
theorem ne_gr {K : PySem.W.Frag} {H : Hp} {u v : V} {r s : Int → Rat} {Q : VK} (h1 : Gr K H u r) (h2 : Gr K H v s) (e : Evt fun x => r x = s x) (q : Q (.bl false) H) : rNeD K u v H Q := by
  obtain ⟨f, hf, I⟩ := h1
  obtain ⟨g, hg, J⟩ := h2
  refine ne_fn hf hg ?_
  rw [decide_eq_true (I.uniq J e)]
  exact q
theorem eq_gr {K : PySem.W.Frag} {H : Hp} {u v : V} {r s : Int → Rat} {Q : VK} (h1 : Gr K H u r) (h2 : Gr K H v s) (e : Evt fun x => r x = s x) (q : Q (.bl true) H) : rEqD K u v H Q := by
  obtain ⟨f, hf, I⟩ := h1
  obtain ⟨g, hg, J⟩ := h2
  refine eq_fn hf hg ?_
  rw [decide_eq_true (I.uniq J e)]
  exact q
theorem ChV.ft {K : PySem.W.Frag} {H : Hp} {v : V} {a b c d : Int → Rat} (h : ChV K H v a b c d) : ∃ f1 f2 f3 f4, Ft K H v [f1, f2, f3, f4] ∧ Is f1 a ∧ Is f2 b ∧ Is f3 c ∧ Is f4 d := by
  obtain ⟨t, u1, u2, u3, u4, f1, f2, f3, f4, rfl, hT, h1, h2, h3, h4, I1, I2, I3, I4⟩ := h
  exact ⟨f1, f2, f3, f4, ⟨t, _, rfl, hT, .cons h1 (.cons h2 (.cons h3 (.cons h4 .nil)))⟩, I1, I2, I3, I4⟩
theorem ne_ch {K : PySem.W.Frag} {H : Hp} {u v : V} {a b c d : Int → Rat} {Q : VK} (h1 : ChV K H u a b c d) (h2 : ChV K H v a b c d) (q : Q (.bl false) H) : rNeD K u v H Q := by
  obtain ⟨f1, f2, f3, f4, hf, I1, I2, I3, I4⟩ := h1.ft
  obtain ⟨g1, g2, g3, g4, hg, J1, J2, J3, J4⟩ := h2.ft
  refine ne_ft hf hg ?_
  rw [I1.uniq J1 (.all fun _ => rfl), I2.uniq J2 (.all fun _ => rfl), I3.uniq J3 (.all fun _ => rfl), I4.uniq J4 (.all fun _ => rfl), decide_eq_true rfl]
  exact q
/-- the i-th of v is of the germ r -/
def Nth (K : PySem.W.Frag) (H : Hp) (v : V) (i : Int) (r : Int → Rat) : Prop := ∃ (t : Addr) (us : List V) (u : V), v = .ref t ∧ SqT K H t us ∧ atI us i = some u ∧ Gr K H u r
theorem Nth.same {K : PySem.W.Frag} {H H' : Hp} {v : V} {i : Int} {r : Int → Rat} (h : Nth K H v i r) (e : Same H H') : Nth K H' v i r := let ⟨t, us, u, h1, h2, h3, h4⟩ := h; ⟨t, us, u, h1, same_sqT e h2, h3, h4.same e⟩
theorem ChV.nth {K : PySem.W.Frag} {H : Hp} {v : V} {a b c d : Int → Rat} (h : ChV K H v a b c d) : Nth K H v 0 a ∧ Nth K H v 1 b ∧ Nth K H v 2 c ∧ Nth K H v 3 d := by
  obtain ⟨t, u1, u2, u3, u4, f1, f2, f3, f4, rfl, hT, h1, h2, h3, h4, I1, I2, I3, I4⟩ := h
  exact ⟨⟨t, _, u1, rfl, hT, atI_nat (j := 0) rfl, f1, h1, I1⟩, ⟨t, _, u2, rfl, hT, atI_nat (j := 1) rfl, f2, h2, I2⟩, ⟨t, _, u3, rfl, hT, atI_nat (j := 2) rfl, f3, h3, I3⟩, ⟨t, _, u4, rfl, hT, atI_nat (j := 3) rfl, f4, h4, I4⟩⟩
/-- a checked operation -/
theorem chg_rd {K : PySem.W.Frag} {H : Hp} {Q : VK} {E : XK} {g : Rat → Rat → Rat} {u v : V} {r s : Int → Rat} {d e b c d' b' : Nat} (h1 : Gr K H u r) (h2 : Gr K H v s) (S1 : Sb r d b) (S2 : Sb s e c) (S3 : Sb (fun x => g (r x) (s x)) d' b') (n1 : d + e ≤ 12) (n2 : b + c ≤ 199) (n3 : b ≤ 190) (n4 : c ≤ 190) (n5 : d' ≤ 12)
    (k : ∀ H' z, Same H H' → Gr K H' z (fun x => g (r x) (s x)) → Q z H') : spChk K g [u, v] H Q E := by
  obtain ⟨f, hf, I⟩ := h1
  obtain ⟨h, hh, J⟩ := h2
  exact ⟨u, v, f, h, r, s, d, e, b, c, d', b', rfl, hf, hh, I, J, S1, S2, n1, n2, n3, n4, S3, n5, fun H' z k' s' hz L => k _ _ s' ⟨k', hz, L⟩⟩
abbrev tMulI (K : PySem.W.Frag) (fi : Nat) (i : Int) (m : Nat) : TE := t2 (fun vs H Q => spChk K (· * ·) vs H Q E0) (tOp (rIxT K) (tVar fi) (tC (.int i))) (tVar m)
abbrev tSum (K : PySem.W.Frag) (fi : Nat) (i j : Int) (m n : Nat) : TE := t2 (fun vs H Q => spChk K (· + ·) vs H Q E0) (tMulI K fi i m) (tMulI K fi j n)
theorem mul_rd {K : PySem.W.Frag} {σ : L2.St} {H : Hp} {Q : VK} {fi m : Nat} {i : Int} {v u : V} {r s : Int → Rat} {d e b c d' b' : Nat} (h1 : σ[fi]? = some (some v)) (h2 : σ[m]? = some (some u)) (N : Nth K H v i r) (hu : Gr K H u s)
    (S1 : Sb r d b) (S2 : Sb s e c) (S3 : Sb (fun x => r x * s x) d' b') (n1 : d + e ≤ 12) (n2 : b + c ≤ 199) (n3 : b ≤ 190) (n4 : c ≤ 190) (n5 : d' ≤ 12) (k : ∀ H' z, Same H H' → Gr K H' z (fun x => r x * s x) → Q z H') : tMulI K fi i m σ H Q := by
  obtain ⟨t, us, w, rfl, hT, ha, hw⟩ := N
  exact ⟨.ref t, h1, t, us, i, w, rfl, rfl, hT, ha, u, h2, chg_rd hw hu S1 S2 S3 n1 n2 n3 n4 n5 k⟩
theorem sum_rd {K : PySem.W.Frag} {σ : L2.St} {H : Hp} {Q : VK} {fi m n : Nat} {i j : Int} {v u w : V} {r s r' s' t : Int → Rat} {d1 d2 d3 e1 e2 e3 b1 b2 b3 c1 c2 c3 d' b' : Nat} (h1 : σ[fi]? = some (some v)) (h2 : σ[m]? = some (some u)) (h3 : σ[n]? = some (some w))
    (N1 : Nth K H v i r) (N2 : Nth K H v j r') (hu : Gr K H u s) (hw : Gr K H w s') (S1 : Sb r d1 b1) (S2 : Sb s d2 b2) (S3 : Sb (fun x => r x * s x) d3 b3) (T1 : Sb r' e1 c1) (T2 : Sb s' e2 c2) (T3 : Sb (fun x => r' x * s' x) e3 c3) (U : Sb t d' b') (ev : Evt fun x => r x * s x + r' x * s' x = t x)
    (nn : (d1 + d2 ≤ 12 ∧ b1 + b2 ≤ 190 ∧ d3 ≤ 12) ∧ (e1 + e2 ≤ 12 ∧ c1 + c2 ≤ 190 ∧ e3 ≤ 12) ∧ d3 + e3 ≤ 12 ∧ b3 + c3 ≤ 190 ∧ d' ≤ 12) (k : ∀ H' z, Same H H' → Gr K H' z t → Q z H') : tSum K fi i j m n σ H Q := by
  obtain ⟨⟨n1, n2, n3⟩, ⟨n4, n5, n6⟩, n7, n8, n9⟩ := nn
  refine mul_rd h1 h2 N1 hu S1 S2 S3 n1 (by omega) (by omega) (by omega) n3 fun H1 z1 s1 hz1 => ?_
  refine mul_rd h1 h3 (N2.same s1) (hw.same s1) T1 T2 T3 n4 (by omega) (by omega) (by omega) n6 fun H2 z2 s2 hz2 => ?_
  exact chg_rd (hz1.same s2) hz2 S3 T3 (U.congr (ev.mono fun x hx => hx.symm)) n7 (by omega) (by omega) (by omega) n9 fun H3 z3 s3 hz3 => k _ _ ((s1.trans s2).trans s3) (hz3.congr ev)
/-- four functions, or None -/
def Fo (K : PySem.W.Frag) (H : Hp) (z : V) (N A1 A2 A3 A4 : Int → Rat) : Prop := (z = .non ∧ Evt fun x => N x = 0) ∨ (Nz N ∧ ChV K H z A1 A2 A3 A4)
theorem Fo.same {K : PySem.W.Frag} {H H' : Hp} {z : V} {N A1 A2 A3 A4 : Int → Rat} (h : Fo K H z N A1 A2 A3 A4) (e : Same H H') : Fo K H' z N A1 A2 A3 A4 := h.imp id fun ⟨a, b⟩ => ⟨a, b.same e⟩
theorem Fo.dec {K : PySem.W.Frag} {H : Hp} {z : V} {N A1 A2 A3 A4 : Int → Rat} {f : Fn} (h : Fo K H z N A1 A2 A3 A4) (I : Is f N) : decide (z = V.non) = decide (f = ([], [1])) := by
  rcases h with ⟨rfl, e⟩ | ⟨n, h⟩
  · rw [decide_eq_true rfl, decide_eq_true (I.zero e)]
  · obtain ⟨t, _, _, _, _, _, _, _, _, rfl, _⟩ := h
    rw [decide_eq_false (fun e => by cases e), decide_eq_false (I.ne_of n)]
def tFo (K : PySem.W.Frag) (N A1 A2 A3 A4 : G4) : TE := fun σ H Q => ∃ (v : V) (a b c d : Int → Rat), σ[2]? = some (some v) ∧ ChV K H v a b c d ∧ Plan a b c d ∧ ∀ H' z, Same H H' → Fo K H' z (N a b c d) (A1 a b c d) (A2 a b c d) (A3 a b c d) (A4 a b c d) → Q z H'
theorem pe_fo {X : Cx} {e : Expr} {N A1 A2 A3 A4 : G4} (h : PE X e (t1 (fun vs H Q => spFour X.K N A1 A2 A3 A4 vs H Q E0) (tVar 2))) : PE X e (tFo X.K N A1 A2 A3 A4) :=
  PE.imp h fun σ H Q ⟨v, a, b, c, d, h2, hc, pl, k⟩ => ⟨v, h2, v, a, b, c, d, rfl, hc, pl, fun e H' s => k _ _ s (.inl ⟨rfl, e⟩), fun n H' z s hz => k _ _ s (.inr ⟨n, hz⟩)⟩
/-- all that the tests look at -/
structure LC (K : PySem.W.Frag) (H : Hp) (v ff out there back : V) (a b c d : Int → Rat) : Prop where
  ch : ChV K H v a b c d
  pl : Plan a b c d
  ff : Gr K H ff fr
  out : Gr K H out (go a b)
  there : Gr K H there (go c d)
  back : Gr K H back bk
theorem LC.same {K : PySem.W.Frag} {H H' : Hp} {v ff out there back : V} {a b c d : Int → Rat} (h : LC K H v ff out there back a b c d) (e : Same H H') : LC K H' v ff out there back a b c d :=
  ⟨h.ch.same e, h.pl, h.ff.same e, h.out.same e, h.there.same e, h.back.same e⟩
section
variable {K : PySem.W.Frag} {σ : L2.St} {H : Hp} {Q : VK} {fi : Nat} {v ff out there back four : V} {a b c d : Int → Rat}
/-- the six sums -/
theorem sum1 (L : LC K H v ff out there back a b c d) (n : Nz c) (h4 : ChV K H four (iP a b c d) (iQ a b c d) (iR a b c d) (iT a b c d)) (h1 : σ[fi]? = some (some four)) (h2 : σ[14]? = some (some there)) (h3 : σ[15]? = some (some back)) (k : ∀ H' z, Same H H' → Gr K H' z (go a b) → Q z H') : tSum K fi 0 1 14 15 σ H Q :=
  sum_rd h1 h2 h3 h4.nth.1 h4.nth.2.1 L.there L.back (L.pl.pc n).ac L.pl.s.there (L.pl.pc n).t7 (L.pl.pc n).mc sb_bk (L.pl.pc n).mc.bk L.pl.s.out (n.mono fun x hx => by show a x / c x * (c x * fr x + d x) + (a x * d x - b x * c x) / c x * (-1) = a x * fr x + b x; grind) (by omega) k
theorem sum2 (L : LC K H v ff out there back a b c d) (n : Nz c) (h4 : ChV K H four (iP a b c d) (iQ a b c d) (iR a b c d) (iT a b c d)) (h1 : σ[fi]? = some (some four)) (h2 : σ[14]? = some (some there)) (h3 : σ[15]? = some (some back)) (k : ∀ H' z, Same H H' → Gr K H' z fr → Q z H') : tSum K fi 2 3 14 15 σ H Q :=
  sum_rd h1 h2 h3 h4.nth.2.2.1 h4.nth.2.2.2 L.there L.back (sb_inv L.pl.s.sc n) L.pl.s.there (L.pl.pc n).t4 (L.pl.pc n).dc sb_bk (L.pl.pc n).dc.bk sb_fr (n.mono fun x hx => by show 1 / c x * (c x * fr x + d x) + d x / c x * (-1) = fr x; grind) (by omega) k
theorem sum3 (L : LC K H v ff out there back a b c d) (n : Nz b) (h4 : ChV K H four (aP a b c d) (aQ a b c d) (aR a b c d) (aT a b c d)) (h1 : σ[fi]? = some (some four)) (h2 : σ[13]? = some (some out)) (h3 : σ[11]? = some (some ff)) (k : ∀ H' z, Same H H' → Gr K H' z (go c d) → Q z H') : tSum K fi 0 1 13 11 σ H Q :=
  sum_rd h1 h2 h3 h4.nth.1 h4.nth.2.1 L.out L.ff (L.pl.pb n).db L.pl.s.out (L.pl.pb n).t7 (L.pl.pb n).mb.neg sb_fr ((L.pl.pb n).t5.neg.congr (.all fun x => by show 0 - (a x * d x - b x * c x) / b x * fr x = (0 - (a x * d x - b x * c x) / b x) * fr x; grind)) L.pl.s.there
    (n.mono fun x hx => by show d x / b x * (a x * fr x + b x) + (0 - (a x * d x - b x * c x) / b x) * fr x = c x * fr x + d x; grind) (by omega) k
theorem sum4 (L : LC K H v ff out there back a b c d) (n : Nz b) (h4 : ChV K H four (aP a b c d) (aQ a b c d) (aR a b c d) (aT a b c d)) (h1 : σ[fi]? = some (some four)) (h2 : σ[13]? = some (some out)) (h3 : σ[11]? = some (some ff)) (k : ∀ H' z, Same H H' → Gr K H' z bk → Q z H') : tSum K fi 2 3 13 11 σ H Q :=
  sum_rd h1 h2 h3 h4.nth.2.2.1 h4.nth.2.2.2 L.out L.ff (sb_inv L.pl.s.sb n).neg L.pl.s.out ((L.pl.pb n).t4.neg.congr (.all fun x => by show 0 - 1 / b x * (a x * fr x + b x) = (0 - 1 / b x) * (a x * fr x + b x); grind)) (L.pl.pb n).ab sb_fr (L.pl.pb n).u4 sb_bk
    (n.mono fun x hx => by show (0 - 1 / b x) * (a x * fr x + b x) + a x / b x * fr x = -1; grind) (by omega) k
theorem sum5 (L : LC K H v ff out there back a b c d) (n : Nz d) (h4 : ChV K H four (hP a b c d) (hQ a b c d) (hR a b c d) (hT a b c d)) (h1 : σ[fi]? = some (some four)) (h2 : σ[14]? = some (some there)) (h3 : σ[11]? = some (some ff)) (k : ∀ H' z, Same H H' → Gr K H' z (go a b) → Q z H') : tSum K fi 0 1 14 11 σ H Q :=
  sum_rd h1 h2 h3 h4.nth.1 h4.nth.2.1 L.there L.ff (L.pl.pd n).bd L.pl.s.there (L.pl.pd n).t7 (L.pl.pd n).md sb_fr (L.pl.pd n).t5 L.pl.s.out
    (n.mono fun x hx => by show b x / d x * (c x * fr x + d x) + (a x * d x - b x * c x) / d x * fr x = a x * fr x + b x; grind) (by omega) k
theorem sum6 (L : LC K H v ff out there back a b c d) (n : Nz d) (h4 : ChV K H four (hP a b c d) (hQ a b c d) (hR a b c d) (hT a b c d)) (h1 : σ[fi]? = some (some four)) (h2 : σ[14]? = some (some there)) (h3 : σ[11]? = some (some ff)) (k : ∀ H' z, Same H H' → Gr K H' z bk → Q z H') : tSum K fi 2 3 14 11 σ H Q :=
  sum_rd h1 h2 h3 h4.nth.2.2.1 h4.nth.2.2.2 L.there L.ff (sb_inv L.pl.s.sd n).neg L.pl.s.there ((L.pl.pd n).t4.neg.congr (.all fun x => by show 0 - 1 / d x * (c x * fr x + d x) = (0 - 1 / d x) * (c x * fr x + d x); grind)) (L.pl.pd n).cd sb_fr (L.pl.pd n).u4 sb_bk
    (n.mono fun x hx => by show (0 - 1 / d x) * (c x * fr x + d x) + c x / d x * fr x = -1; grind) (by omega) k
end
end CN
end
section
set_option Elab.async false
set_option linter.all false
set_option maxRecDepth 100000
set_option maxHeartbeats 4000000
namespace CN
open PySem PySem.Spec PyProof.Rows L2 PQ
abbrev lLaw : Stmt := topS 95
abbrev nlLaw : List Str := ["_law_script", "_law_row", "_law_chain_here", "_law_ladder", "_law_at", "_law_a", "_law_b", "_law_c", "_law_d", "_law_zero", "_law_one", "_law_first", "_law_four", "_law_out", "_law_there", "_law_back", "_law_more", "_law_both"]
theorem slLaw : FnScope nlLaw ["_law_script"] (defScope lLaw) := ⟨rfl, rfl, rfl, by decide +kernel, rfl, by decide +kernel, by decide +kernel⟩
def spLaw (K : PySem.W.Frag) : Sp := fun vs H Q _ => ∃ (a : Addr) (ns : List Int), vs = [.ref a] ∧ ScrS K H a (ns.map V.int) ∧ ∀ H', Q (.bl true) H'
/-- a rung drawn -/
def Gw (K : PySem.W.Frag) (H : Hp) (u : V) : Prop := ∃ p k t b, Gv K H u p k t b ∧ Wt t b
theorem Rv.sb {K : PySem.W.Frag} {H H' : Hp} {r : Addr} {v : V} {t b : Int} (h : Rv K H v t b) (hl : isL H r) (e : SB r H H') : Rv K H' v t b := let ⟨a, h1, h2⟩ := h; ⟨a, h1, sb_sqT hl e h2⟩
theorem Gw.sb {K : PySem.W.Frag} {H H' : Hp} {r : Addr} {v : V} (h : Gw K H v) (hl : isL H r) (e : SB r H H') : Gw K H' v := let ⟨p, k, t, b, ⟨a, u, h1, h2, h3⟩, W⟩ := h; ⟨p, k, t, b, ⟨a, u, h1, sb_sqT hl e h2, h3.sb hl e⟩, W⟩
/-- the ladder, now and then -/
def tLad (K : PySem.W.Frag) : TS := fun D σ H => ∃ (s0 : Option V) (r : Addr) (v : V) (a b c d : Int → Rat) (rest : List (Option V)), σ = s0 :: some (.ref r) :: some v :: none :: none :: rest ∧ RowP K r H ∧ ChV K H v a b c d ∧ Plan a b c d ∧
  ∀ H' v' y3 y4 a' b' c' d', ChV K H' v' a' b' c' d' → Plan a' b' c' d' → D.nx (s0 :: some (.ref r) :: some v' :: y3 :: y4 :: rest) H'
theorem ChV.sb {K : PySem.W.Frag} {H H' : Hp} {r : Addr} {v : V} {a b c d : Int → Rat} (h : ChV K H v a b c d) (hl : isL H r) (e : SB r H H') : ChV K H' v a b c d := by
  obtain ⟨t, u1, u2, u3, u4, f1, f2, f3, f4, e1, e2, h1, h2, h3, h4, w⟩ := h
  exact ⟨t, u1, u2, u3, u4, f1, f2, f3, f4, e1, sb_sqT hl e e2, h1.sb hl e, h2.sb hl e, h3.sb hl e, h4.sb hl e, w⟩
theorem Fo.nn {K : PySem.W.Frag} {H : Hp} {z : V} {a b c d : Int → Rat} (h : ChV K H z a b c d) : decide (z = V.non) = false := by
  obtain ⟨t, _, _, _, _, _, _, _, _, rfl, _⟩ := h
  exact decide_eq_false fun e => by cases e
theorem made_fr {f : Fn} (M : Made [1] [1, 1] f) : Is f fr := M.is (evt_L.mono fun x hx => ⟨hx.1, by rw [hx.2]; simp [er]⟩)
theorem bl_ne (x : Bool) : (!decide (V.bl x = V.bl x)) = false := by rw [decide_eq_true rfl]; rfl
/-- the tests of four -/
def tTest4 (K : PySem.W.Frag) (fi : Nat) (N A1 A2 A3 A4 : G4) : TS := fun D σ H => ∃ (v four ff out there back : V) (a b c d : Int → Rat), σ[fi]? = some (some four) ∧ σ[2]? = some (some v) ∧ σ[11]? = some (some ff) ∧ σ[13]? = some (some out) ∧ σ[14]? = some (some there) ∧ σ[15]? = some (some back) ∧
  LC K H v ff out there back a b c d ∧ Fo K H four (N a b c d) (A1 a b c d) (A2 a b c d) (A3 a b c d) (A4 a b c d) ∧ ∀ H', Same H H' → D.nx σ H'
section
variable {P : Program} {w : World} {K : PySem.W.Frag} {mg : Str → Option Value} {base : Heap}
theorem ol_law (D : Df K mg "law" lLaw ["_law_script"]) (B : Bi mg) (Gc : Ok P w K mg base 39 "_law_chain" ["_law_row"] (lpChain K)) (G : Ok P w K mg base 1 "_law_taken" ["_law_row", "_law_many"] (lpTaken K)) (Gp : Ok P w K mg base 2 "_law_pick" ["_law_row", "_law_things"] (lpPick K)) (Gw' : Ok P w K mg base 3 "_law_worth" ["_law_row"] (lpWorth K))
    (Gl : Ok P w K mg base 39 "ladder_chain" ["ladder"] (spLadder K)) (Gf : Ok P w K mg base 36 "function" ["top", "bottom"] (spFunction K)) (Ga : Ok P w K mg base 38 "add" ["one", "other"] (spChk K (· + ·))) (Gs : Ok P w K mg base 38 "subtract" ["one", "other"] (spChk K (· - ·))) (Gm : Ok P w K mg base 38 "multiply" ["one", "other"] (spChk K (· * ·)))
    (Gi : Ok P w K mg base 39 "impedances_of" ["chain"] (spFour K gC iP iQ iR iT)) (Gy : Ok P w K mg base 39 "admittances_of" ["chain"] (spFour K gB aP aQ aR aT)) (Gh : Ok P w K mg base 39 "hybrids_of" ["chain"] (spFour K gD hP hQ hR hT))
    (Fi : Ok P w K mg base 40 "from_impedances" ["four"] (spFrom K gC iP iQ iR iT)) (Fy : Ok P w K mg base 40 "from_admittances" ["four"] (spFrom K gB aP aQ aR aT)) : Ok P w K mg base 41 "law" ["_law_script"] (spLaw K) := by
  refine D.ok (k := 40) slLaw (fun vs H Q E h => by obtain ⟨a, ns, rfl, _⟩ := h; rfl) fun f cdv A outer s H vs Q E hr h => ?_
  obtain ⟨sc, ns, rfl, hS, k⟩ := h
  refine ⟨_, pss_cons (ps_set (i := 1) slLaw.nd rfl (.inl rfl) (pe_lst (pa_cons (pv 0) (pa_cons pe_int (pa_cons pe_int (pa_cons pe_int pa_nil))))))
    (pss_cons (ps_set (i := 2) slLaw.nd rfl (.inl rfl) (pc1 Gc (hr.mono (by decide)) (by rfl) (pv 1)))
    (pss_cons (PS.imp (t' := tLad K) (ps_if (pt_cmpR op_eq (pc2 G (hr.mono (by decide)) (by rfl) (pv 1) pe_int) pe_int (nomark _))
      (pss_cons (ps_set (i := 3) slLaw.nd rfl (.inl rfl) (pe_lst pa_nil))
      (pss_cons (ps_for PassesOwn.never rfl (pi_range1 (by rfl) B.range (pa_cons pe_int pa_nil)) (pg_name (i := 4) slLaw.nd rfl (.inl rfl))
        (pss_one (ps_expr (pe_bm PySem.F.plainAttrs_list PySem.F.slot_list_append PySem.F.type_list_append mt_append (pv 3) (pa_cons (pe_tup (pa_cons (pc2 Gp (hr.mono (by decide)) (by rfl) (pv 1) (pe_lst (pa_cons pe_str (pa_cons pe_str pa_nil))))
          (pa_cons (pc2 Gp (hr.mono (by decide)) (by rfl) (pv 1) (pe_lst (pa_cons pe_str (pa_cons pe_str (pa_cons pe_str pa_nil))))) (pa_cons (pc1 Gw' (hr.mono (by decide)) (by rfl) (pv 1)) pa_nil)))) pa_nil)))))
      (pss_one (ps_set (i := 2) slLaw.nd rfl (.inl rfl) (pc1 Gl (hr.mono (by decide)) (by rfl) (pt1 call_tuple_of B.tuple bt_tuple (by rfl) (pv 3))))))) pss_nil) (fun D σ H z => ?_))
    (pss_cons (ps_asg (pv 2) (pg_tup rfl (pgs_cons (pg_name (i := 5) slLaw.nd rfl (.inl rfl)) (pgs_cons (pg_name (i := 6) slLaw.nd rfl (.inl rfl)) (pgs_cons (pg_name (i := 7) slLaw.nd rfl (.inl rfl)) (pgs_cons (pg_name (i := 8) slLaw.nd rfl (.inl rfl)) pgs_nil))))))
    (pss_cons (ps_par3 (i := 9) (j := 10) (l := 11) rfl slLaw.nd rfl rfl rfl (by decide) (by decide) (by decide) rfl rfl rfl (pa_cons (pe_fnK [] [1] (pe_tup (pa_cons (pe_tup pa_nil) (pa_cons (pe_tup (pa_cons pe_int pa_nil)) pa_nil)))) (pa_cons (pe_fnK [1] [1] (pe_tup (pa_cons (pe_tup (pa_cons pe_int pa_nil)) (pa_cons (pe_tup (pa_cons pe_int pa_nil)) pa_nil))))
      (pa_cons (pc2 Gf (hr.mono (by decide)) (by rfl) (pe_tup (pa_cons pe_int pa_nil)) (pe_tup (pa_cons pe_int (pa_cons pe_int pa_nil)))) pa_nil))) (by rfl))
    (pss_cons (ps_set (i := 12) slLaw.nd rfl (.inl rfl) (pe_fo (pc1 Gi (hr.mono (by decide)) (by rfl) (pv 2))))
    (pss_cons (ps_if (PW.pt (pw_or (pt_cmpR op_ne (pe_cmpR op_isN (pv 12) pe_non (nomark _)) (pe_cmpR (op_eqD hr.units) (pv 7) (pv 9) (nomark _)) (nomark _))
      (pw_or1 (pt_cmpR op_ne (pe_cmpR op_isN (pe_fo (pc1 Gy (hr.mono (by decide)) (by rfl) (pv 2))) pe_non (nomark _)) (pe_cmpR (op_eqD hr.units) (pv 6) (pv 9) (nomark _)) (nomark _))))) (pss_one (ps_ret pe_bl)) pss_nil)
    (pss_cons (ps_if (pt_cmpR op_ne (pe_cmpR op_isN (pe_fo (pc1 Gh (hr.mono (by decide)) (by rfl) (pv 2))) pe_non (nomark _)) (pe_cmpR (op_eqD hr.units) (pv 8) (pv 9) (nomark _)) (nomark _)) (pss_one (ps_ret pe_bl)) pss_nil)
    (pss_cons (ps_par (i := 13) (j := 14) rfl slLaw.nd rfl rfl (by decide) rfl rfl (pa_cons (pc2 Ga (hr.mono (by decide)) (by rfl) (pc2 Gm (hr.mono (by decide)) (by rfl) (pv 5) (pv 11)) (pv 6)) (pa_cons (pc2 Ga (hr.mono (by decide)) (by rfl) (pc2 Gm (hr.mono (by decide)) (by rfl) (pv 7) (pv 11)) (pv 8)) pa_nil)) (by rfl))
    (pss_cons (ps_set (i := 15) slLaw.nd rfl (.inl rfl) (pc2 Gs (hr.mono (by decide)) (by rfl) (pv 9) (pv 10)))
    (pss_cons (PS.imp (t' := tTest4 K 12 gC iP iQ iR iT) (ps_if (pt_cmpR op_notN (pv 12) pe_non (nomark _))
      (pss_cons (ps_if (pt_cmpR (op_neD hr.units) (pc1 Fi hr (by rfl) (pv 12)) (pv 2) (nomark _)) (pss_one (ps_ret pe_bl)) pss_nil)
      (pss_cons (ps_if (pt_cmpR (op_neD hr.units) (pc2 Ga (hr.mono (by decide)) (by rfl) (pc2 Gm (hr.mono (by decide)) (by rfl) (pe_ix ix_tup (pv 12) pe_int (fun _ _ => rfl)) (pv 14)) (pc2 Gm (hr.mono (by decide)) (by rfl) (pe_ix ix_tup (pv 12) pe_int (fun _ _ => rfl)) (pv 15))) (pv 13) (nomark _)) (pss_one (ps_ret pe_bl)) pss_nil)
      (pss_one (ps_if (pt_cmpR (op_neD hr.units) (pc2 Ga (hr.mono (by decide)) (by rfl) (pc2 Gm (hr.mono (by decide)) (by rfl) (pe_ix ix_tup (pv 12) pe_int (fun _ _ => rfl)) (pv 14)) (pc2 Gm (hr.mono (by decide)) (by rfl) (pe_ix ix_tup (pv 12) pe_int (fun _ _ => rfl)) (pv 15))) (pv 11) (nomark _)) (pss_one (ps_ret pe_bl)) pss_nil)))) pss_nil) (fun D σ H z => ?_))
    (pss_cons (ps_set (i := 16) slLaw.nd rfl (.inl rfl) (pe_fo (pc1 Gy (hr.mono (by decide)) (by rfl) (pv 2))))
    (pss_cons (PS.imp (t' := tTest4 K 16 gB aP aQ aR aT) (ps_if (pt_cmpR op_notN (pv 16) pe_non (nomark _))
      (pss_cons (ps_if (PW.pt (pw_or (pt_cmpR (op_neD hr.units) (pc1 Fy hr (by rfl) (pv 16)) (pv 2) (nomark _)) (pw_or1 (pt_cmpR (op_neD hr.units) (pc2 Ga (hr.mono (by decide)) (by rfl) (pc2 Gm (hr.mono (by decide)) (by rfl) (pe_ix ix_tup (pv 16) pe_int (fun _ _ => rfl)) (pv 13)) (pc2 Gm (hr.mono (by decide)) (by rfl) (pe_ix ix_tup (pv 16) pe_int (fun _ _ => rfl)) (pv 11))) (pv 14) (nomark _))))) (pss_one (ps_ret pe_bl)) pss_nil)
      (pss_one (ps_if (pt_cmpR (op_neD hr.units) (pc2 Ga (hr.mono (by decide)) (by rfl) (pc2 Gm (hr.mono (by decide)) (by rfl) (pe_ix ix_tup (pv 16) pe_int (fun _ _ => rfl)) (pv 13)) (pc2 Gm (hr.mono (by decide)) (by rfl) (pe_ix ix_tup (pv 16) pe_int (fun _ _ => rfl)) (pv 11))) (pv 15) (nomark _)) (pss_one (ps_ret pe_bl)) pss_nil))) pss_nil) (fun D σ H z => ?_))
    (pss_cons (ps_set (i := 17) slLaw.nd rfl (.inl rfl) (pe_fo (pc1 Gh (hr.mono (by decide)) (by rfl) (pv 2))))
    (pss_cons (ps_if (pt_cmpR op_isN (pv 17) pe_non (nomark _)) (pss_one (ps_ret pe_bl)) pss_nil)
    (pss_cons (ps_if (pt_cmpR (op_neD hr.units) (pc2 Ga (hr.mono (by decide)) (by rfl) (pc2 Gm (hr.mono (by decide)) (by rfl) (pe_ix ix_tup (pv 17) pe_int (fun _ _ => rfl)) (pv 14)) (pc2 Gm (hr.mono (by decide)) (by rfl) (pe_ix ix_tup (pv 17) pe_int (fun _ _ => rfl)) (pv 11))) (pv 13) (nomark _)) (pss_one (ps_ret pe_bl)) pss_nil)
    (pss_one (ps_ret (pe_cmpR (op_eqD hr.units) (pc2 Ga (hr.mono (by decide)) (by rfl) (pc2 Gm (hr.mono (by decide)) (by rfl) (pe_ix ix_tup (pv 17) pe_int (fun _ _ => rfl)) (pv 14)) (pc2 Gm (hr.mono (by decide)) (by rfl) (pe_ix ix_tup (pv 17) pe_int (fun _ _ => rfl)) (pv 11))) (pv 15) (nomark _))))))))))))))))))), ?_⟩
  · obtain ⟨s0, r, v, a, b, c, d, rest, rfl, R, hv, PL, k'⟩ := z
    refine ⟨.ref r, rfl, r, 3, rfl, R, by decide, by decide, fun H1 x sb1 R1 x0 x3 => ⟨rfl, _, rfl, ite2 (fun _ => ?_) (fun _ => ?_)⟩⟩
    · refine ⟨(by decide : 0 ≤ sizeLine), fun l nl => ⟨3, rfl, by decide, by decide, ?_⟩⟩
      have lr := R1.ne nl
      refine for_range (fun i σ H' => (∃ y4, σ = s0 :: some (.ref r) :: some v :: some (.ref l) :: y4 :: rest) ∧ RowP K r H' ∧ ∃ us : List V, H' l = some (.lst us) ∧ us.length = i ∧ ∀ u ∈ us, Gw K H' u) ⟨⟨_, rfl⟩, R1.same (same_upd nl), [], upd_same, rfl, by simp⟩ (fun i σ H' hi z => ?_) fun σ H' z => ?_
      · obtain ⟨⟨y4, rfl⟩, R2, us, hl, lu, hu⟩ := z
        have hi3 : i < 3 := hi
        refine ⟨.ref l, rfl, .inl ⟨rfl, _, SqL.of hl⟩, .ref r, rfl, (by decide : 2 ≤ sizeLine), fun p np => ?_⟩
        refine ⟨r, p, _, rfl, R2.same (same_upd np), upd_same, R2.ne np, (by decide : 1 ≤ 2), (by decide : 2 ≤ 1000), fun H3 z1 sb3 R3 hz1 => ?_⟩
        refine ⟨.ref r, rfl, (by decide : 3 ≤ sizeLine), fun p2 np2 => ?_⟩
        refine ⟨r, p2, _, rfl, R3.same (same_upd np2), upd_same, R3.ne np2, (by decide : 1 ≤ 3), (by decide : 3 ≤ 1000), fun H4 z2 sb4 R4 hz2 => ?_⟩
        refine ⟨.ref r, rfl, r, rfl, R4, fun H5 z3 t b sb5 R5 hz3 W => ⟨(by decide : 3 ≤ sizeLine), fun q nq => ?_⟩⟩
        have sb25 : SB r H' H5 := ((sb_new np).trans sb3).trans (((sb_new np2).trans sb4).trans sb5)
        have sb2q : SB r H' (upd H5 q (.tup [z1, z2, z3])) := sb25.trans (sb_new nq)
        have hlq := sb2q _ _ lr hl
        obtain ⟨pp, rfl⟩ : ∃ pp : Bool, z1 = .str (if pp then "P" else "S") := by
          simp only [List.mem_cons, List.not_mem_nil, or_false] at hz1
          rcases hz1 with rfl | rfl
          · exact ⟨false, rfl⟩
          · exact ⟨true, rfl⟩
        obtain ⟨kd, rfl⟩ : ∃ kd : Kd, z2 = .str kd.s := by
          simp only [List.mem_cons, List.not_mem_nil, or_false] at hz2
          rcases hz2 with rfl | rfl | rfl
          · exact ⟨.r, rfl⟩
          · exact ⟨.l, rfl⟩
          · exact ⟨.c, rfl⟩
        have hq : ∀ u ∈ us ++ [V.ref q], Gw K (upd H5 q (.tup [.str (if pp then "P" else "S"), .str kd.s, z3])) u := fun u h => by
          rcases List.mem_append.mp h with h | h
          · exact (hu u h).sb R2.isL sb2q
          · have e : u = .ref q := by simpa using h
            rw [e]; exact ⟨pp, kd, t, b, ⟨q, z3, rfl, .of upd_same, hz3.same (same_upd nq)⟩, W⟩
        exact ⟨l, us, .ref q, rfl, rfl, hlq, Nat.lt_of_lt_of_le (by omega : us.length < 1000) line1000, ⟨_, rfl⟩, (R5.same (same_upd nq)).other ⟨_, hlq⟩ (Ne.symm lr) sb_upd, us ++ [.ref q], upd_same, by simp [lu], fun u h => (hq u h).sb ⟨_, hlq⟩ sb_upd⟩
      · obtain ⟨⟨y4, rfl⟩, R2, us, hl, lu, hu⟩ := z
        have lu : us.length = 3 := lu
        obtain ⟨u1, u2, u3, rfl⟩ : ∃ u1 u2 u3, us = [u1, u2, u3] := by
          match us, lu with
          | [u1, u2, u3], _ => exact ⟨_, _, _, rfl⟩
        refine ⟨.ref l, rfl, l, _, rfl, .inl ⟨.of hl, fun t nt => ?_⟩⟩
        have st := same_upd (o := .tup [u1, u2, u3]) nt
        obtain ⟨p1, k1, t1, b1, g1, W1⟩ := hu u1 (by simp)
        obtain ⟨p2, k2, t2, b2, g2, W2⟩ := hu u2 (by simp)
        obtain ⟨p3, k3, t3, b3, g3, W3⟩ := hu u3 (by simp)
        exact ⟨.ref t, [(p1, k1, t1, b1), (p2, k2, t2, b2), (p3, k3, t3, b3)], rfl, ⟨t, _, rfl, .of upd_same, .cons ⟨g1.same st, W1⟩ (.cons ⟨g2.same st, W2⟩ (.cons ⟨g3.same st, W3⟩ .nil))⟩, rfl, fun H3 z a' b' c' d' s3 hz LL => k' _ _ _ _ _ _ _ _ hz LL.plan⟩
    · exact k' _ v none none a b c d (hv.sb R.isL sb1) PL
  · obtain ⟨v, four, ff, out, there, back, a, b, c, d, e12, e2, e11, e13, e14, e15, L, F, k'⟩ := z
    rcases F with ⟨rfl, _⟩ | ⟨n, h4⟩
    · exact ⟨.non, e12, rfl, _, rfl, iteF (k' _ (Same.refl _))⟩
    · refine ⟨four, e12, rfl, _, rfl, ?_⟩
      rw [Fo.nn h4]
      refine iteT ⟨four, e12, four, a, b, c, d, rfl, h4, L.pl, n, fun H1 z1 s1 hz1 => ⟨v, e2, ne_ch hz1 (L.ch.same s1) ⟨_, rfl, iteF ?_⟩⟩⟩
      refine sum1 (L.same s1) n (h4.same s1) e12 e14 e15 fun H2 z2 s2 hz2 => ⟨out, e13, ne_gr hz2 ((L.out.same s1).same s2) (.all fun _ => rfl) ⟨_, rfl, iteF ?_⟩⟩
      refine sum2 ((L.same s1).same s2) n ((h4.same s1).same s2) e12 e14 e15 fun H3 z3 s3 hz3 => ⟨ff, e11, ne_gr hz3 (((L.ff.same s1).same s2).same s3) (.all fun _ => rfl) ⟨_, rfl, iteF ?_⟩⟩
      exact k' _ ((s1.trans s2).trans s3)
  · obtain ⟨v, four, ff, out, there, back, a, b, c, d, e16, e2, e11, e13, e14, e15, L, F, k'⟩ := z
    rcases F with ⟨rfl, _⟩ | ⟨n, h4⟩
    · exact ⟨.non, e16, rfl, _, rfl, iteF (k' _ (Same.refl _))⟩
    · refine ⟨four, e16, rfl, _, rfl, ?_⟩
      rw [Fo.nn h4]
      refine iteT ⟨four, e16, four, a, b, c, d, rfl, h4, L.pl, n, fun H1 z1 s1 hz1 => ⟨v, e2, ne_ch hz1 (L.ch.same s1) ⟨_, rfl, iteF ?_⟩⟩⟩
      refine sum3 (L.same s1) n (h4.same s1) e16 e13 e11 fun H2 z2 s2 hz2 => ⟨there, e14, ne_gr hz2 ((L.there.same s1).same s2) (.all fun _ => rfl) ⟨_, rfl, iteF ?_⟩⟩
      refine sum4 ((L.same s1).same s2) n ((h4.same s1).same s2) e16 e13 e11 fun H3 z3 s3 hz3 => ⟨back, e15, ne_gr hz3 (((L.back.same s1).same s2).same s3) (.all fun _ => rfl) ⟨_, rfl, iteF ?_⟩⟩
      exact k' _ ((s1.trans s2).trans s3)
  · refine ⟨.ref sc, rfl, (by decide : 4 ≤ sizeLine), fun r nr => ?_⟩
    have s0 := same_upd (o := .lst [.ref sc, .int 0, .int 3368, .int 0]) nr
    refine ⟨.ref r, rfl, r, rfl, ⟨sc, ns, 0, 3368, 0, upd_same, hS.same s0⟩, fun H1 v a b c d sb1 R1 hv PL => ?_⟩
    refine ⟨_, r, v, a, b, c, d, _, rfl, R1, hv, PL, ?_⟩
    intro H2 v2 y3 y4 a b c d hv PL
    obtain ⟨t, u1, u2, u3, u4, f1, f2, f3, f4, rfl, hT, h1, h2, h3, h4, I1, I2, I3, I4⟩ := id hv
    refine ⟨.ref t, rfl, t, _, rfl, hT, rfl, u1, _, rfl, u2, _, rfl, u3, _, rfl, u4, [], rfl, rfl, ?_⟩
    -- the constants
    intro H3 zz s3 hzz H4 oo s4 hoo
    refine ⟨(by decide : 1 ≤ sizeLine), fun p np => ⟨(by decide : 2 ≤ sizeLine), fun q nq => ?_⟩⟩
    have sp := same_upd (o := .tup [.int 1]) np
    have sq := same_upd (o := .tup [.int 1, .int 1]) nq
    refine ⟨.ref p, .ref q, [1], [1, 1], rfl, ⟨p, rfl, .of (sq _ _ upd_same)⟩, ⟨q, rfl, .of upd_same⟩, ⟨fun _ => by decide, by decide, by decide⟩, ⟨fun _ => by decide, by decide, by decide⟩, by decide, fun H5 ff gf s5 hff Mf => ⟨_, _, _, rfl, ?_⟩⟩
    have s25 := (s3.trans s4).trans ((sp.trans sq).trans s5)
    have hzz5 := hzz.same (s4.trans ((sp.trans sq).trans s5))
    have hoo5 := hoo.same ((sp.trans sq).trans s5)
    have hv5 := hv.same s25
    have g1 : Gr K H5 u1 a := ⟨f1, h1.same s25, I1⟩
    have g2 : Gr K H5 u2 b := ⟨f2, h2.same s25, I2⟩
    have g3 : Gr K H5 u3 c := ⟨f3, h3.same s25, I3⟩
    have g4 : Gr K H5 u4 d := ⟨f4, h4.same s25, I4⟩
    have gf5 : Gr K H5 ff fr := ⟨gf, hff, made_fr Mf⟩
    have gz5 : Gr K H5 (.ref zz) (fun _ => 0) := ⟨_, hzz5, is_zero⟩
    have go5 : Gr K H5 (.ref oo) (fun _ => 1) := ⟨_, hoo5, is_one⟩
    have hf2 := h2.same s25
    have hf3 := h3.same s25
    have hf4 := h4.same s25
    -- None or not
    refine ⟨.ref t, a, b, c, d, rfl, hv5, PL, fun H6 four s6 F => ?_⟩
    have e3 : (!decide (V.bl (decide (four = V.non)) = V.bl (decide (f3 = ([], [1]))))) = false := by rw [F.dec I3]; exact bl_ne _
    refine ⟨four, rfl, rfl, u3, rfl, .ref zz, rfl, eq_fn (hf3.same s6) (hzz5.same s6) ⟨rfl, _, rfl, ?_⟩⟩
    rw [e3]
    refine iteF ⟨.ref t, a, b, c, d, rfl, hv5.same s6, PL, fun H7 z7 s7 F7 => ⟨rfl, u2, rfl, .ref zz, rfl, eq_fn (hf2.same (s6.trans s7)) (hzz5.same (s6.trans s7)) ⟨rfl, _, rfl, ?_⟩⟩⟩
    have e2 : (!decide (V.bl (decide (z7 = V.non)) = V.bl (decide (f2 = ([], [1]))))) = false := by rw [F7.dec I2]; exact bl_ne _
    rw [e2]
    have s57 := s6.trans s7
    refine iteF ⟨.ref t, a, b, c, d, rfl, hv5.same s57, PL, fun H8 z8 s8 F8 => ⟨rfl, u4, rfl, .ref zz, rfl, eq_fn (hf4.same (s57.trans s8)) (hzz5.same (s57.trans s8)) ⟨rfl, _, rfl, ?_⟩⟩⟩
    have e4 : (!decide (V.bl (decide (z8 = V.non)) = V.bl (decide (f4 = ([], [1]))))) = false := by rw [F8.dec I4]; exact bl_ne _
    rw [e4]
    have s58 := s57.trans s8
    -- out, there, back
    refine iteF ⟨u1, rfl, ff, rfl, chg_rd (g1.same s58) (gf5.same s58) PL.s.sa sb_fr PL.s.af (by omega) (by omega) (by omega) (by omega) (by omega) fun H9 z9 s9 hz9 => ⟨u2, rfl, chg_rd hz9 (g2.same (s58.trans s9)) PL.s.af PL.s.sb PL.s.out (by omega) (by omega) (by omega) (by omega) (by omega) fun H10 out s10 hout => ?_⟩⟩
    have s510 := s58.trans (s9.trans s10)
    refine ⟨u3, rfl, ff, rfl, chg_rd (g3.same s510) (gf5.same s510) PL.s.sc sb_fr PL.s.cf (by omega) (by omega) (by omega) (by omega) (by omega) fun H11 z11 s11 hz11 => ⟨u4, rfl, chg_rd hz11 (g4.same (s510.trans s11)) PL.s.cf PL.s.sd PL.s.there (by omega) (by omega) (by omega) (by omega) (by omega) fun H12 there s12 hthere => ⟨_, _, rfl, ?_⟩⟩⟩
    have s512 := s510.trans (s11.trans s12)
    refine ⟨.ref zz, rfl, .ref oo, rfl, chg_rd (gz5.same s512) (go5.same s512) sb_zero sb_one (sb_bk.congr (.all fun x => by show (-1 : Rat) = 0 - 1; grind)) (by omega) (by omega) (by omega) (by omega) (by omega) fun H13 back s13 hback => ?_⟩
    have s513 := s512.trans s13
    have L : LC K H13 (.ref t) ff out there back a b c d := ⟨hv5.same s513, PL, gf5.same s513, hout.same ((s11.trans s12).trans s13), hthere.same s13, hback.congr (.all fun x => by show (0 : Rat) - 1 = -1; grind)⟩
    have F13 : Fo K H13 four (gC a b c d) (iP a b c d) (iQ a b c d) (iR a b c d) (iT a b c d) := F.same ((s7.trans s8).trans ((s9.trans s10).trans ((s11.trans s12).trans s13)))
    -- the tests
    refine ⟨.ref t, four, ff, out, there, back, a, b, c, d, rfl, rfl, rfl, rfl, rfl, rfl, L, F13, fun H14 s14 => ?_⟩
    have L14 := L.same s14
    refine ⟨.ref t, a, b, c, d, rfl, L14.ch, PL, fun H15 more s15 F15 => ?_⟩
    refine ⟨.ref t, more, ff, out, there, back, a, b, c, d, rfl, rfl, rfl, rfl, rfl, rfl, L14.same s15, F15, fun H16 s16 => ?_⟩
    have L16 := (L14.same s15).same s16
    refine ⟨.ref t, a, b, c, d, rfl, L16.ch, PL, fun H17 both s17 F17 => ?_⟩
    have L17 := L16.same s17
    rcases F17 with ⟨rfl, _⟩ | ⟨n, h4⟩
    · exact ⟨.non, rfl, rfl, _, rfl, iteT (k _)⟩
    · refine ⟨both, rfl, rfl, _, rfl, ?_⟩
      rw [Fo.nn h4]
      refine iteF (sum5 L17 n h4 rfl rfl rfl fun H18 z18 s18 hz18 => ⟨out, rfl, ne_gr hz18 (L17.out.same s18) (.all fun _ => rfl) ⟨_, rfl, iteF ?_⟩⟩)
      refine sum6 (L17.same s18) n (h4.same s18) rfl rfl rfl fun H19 z19 s19 hz19 => ⟨back, rfl, eq_gr hz19 ((L17.back.same s18).same s19) (.all fun _ => rfl) ?_⟩
      exact k _
end
end CN
end
section
set_option Elab.async false
set_option linter.all false
set_option maxRecDepth 100000
set_option maxHeartbeats 4000000
namespace CN
open PySem PySem.Spec PyProof.Rows L2 PQ
/-- an object of the heap that is not the script's stands in what is not tracked -/
theorem stays {h : Heap} {H : Hp} {a : Addr} (only : ∀ b, H b ≠ none → b = a) {ob : Obj} (ha : h.get? a = some ob) {b : Addr} {o : Obj} (e : h.get? b = some o) (n : o ≠ ob ∨ H a = none) : (hidT h H).get? b = some o := by
  refine hidT_get e (Classical.byContradiction fun c => ?_)
  obtain rfl := only b c
  rcases n with n | n
  · exact n (Option.some.inj (e.symm.trans ha))
  · exact c n
theorem ns_stays {h : Heap} {H : Hp} {a : Addr} (only : ∀ b, H b ≠ none → b = a) {vs : List Value} (ha : h.get? a = some { cls := .type "list", data := .seq vs.toArray }) {b : Addr} {m : Str → Option Value} (e : h.Ns b m) : (hidT h H).Ns b m := by
  obtain ⟨o, es, ep, e1, e2, r⟩ := e
  refine ⟨o, es, ep, stays only ha e1 (.inl fun z => ?_), e2, r⟩
  subst z
  cases (show Data.seq vs.toArray _ = Data.dict es ep from e2)
theorem seer_stays {h : Heap} {H : Hp} {a : Addr} (only : ∀ b, H b ≠ none → b = a) {vs : List Value} (ha : h.get? a = some { cls := .type "list", data := .seq vs.toArray }) (S : h.NoSeer) : (hidT h H).NoSeer := by
  constructor
  · obtain ⟨m, x, y⟩ := S.statics
    exact ⟨m, ns_stays only ha x, y⟩
  · obtain ⟨m, x, y⟩ := S.mods
    exact ⟨m, ns_stays only ha x, y⟩
  · obtain ⟨m, x, y⟩ := S.imp
    exact ⟨m, ns_stays only ha x, y⟩
  · obtain ⟨m, bm, o, x, y, z, u, v⟩ := S.main
    refine ⟨m, bm, o, ns_stays only ha x, y, stays only ha z (.inl fun q => ?_), u, v⟩
    subst q
    exact absurd (Value.type.inj (show Value.type "list" = Value.type "module" from u)) (by decide)
/-- the heap that knows the script -/
theorem script_heap {P : Program} {w : World} {K : PySem.W.Frag} {h : Heap} {a : Addr} {vs : List Value} {ns : List Int} (KX : K.In h) (ha : h.get? a = some { cls := .type "list", data := .seq vs.toArray }) (hi : IntsAre vs ns) (hl : ns.length ≤ sizeLine) :
    ∃ H : Hp, ScrS K H a (ns.map V.int) ∧ HOk P w H h ∧ (∀ b, H b ≠ none → b = a) ∧ (H a = none ∨ K.lookup a = none) ∧ ∀ b u, H b = some u → ∃ o xs, u = .frz o (.lst xs) := by
  have rv := vals_ints hi
  have lv := hi.length
  by_cases hk : ∃ o, K.lookup a = some o
  · obtain ⟨o, hk⟩ := hk
    obtain rfl : ({ cls := .type "list", data := .seq vs.toArray } : Obj) = o := Option.some.inj (ha.symm.trans (KX a o hk))
    exact ⟨fun _ => none, .inr ⟨_, _, _, hk, rfl, rfl, rfl, by rw [List.size_toArray, lv]; exact hl, by simpa using rv⟩, (fun b u z => by cases (show (none : Option HO) = some u from z)), fun b z => absurd rfl z, .inl rfl, (fun b u z => by cases (show (none : Option HO) = some u from z))⟩
  · have only : ∀ {b : Addr} {x : HO}, (upd (fun _ => none) a x : Hp) b ≠ none → b = a := fun {b x} z => Classical.byContradiction fun c => z (by rw [upd_ne c])
    refine ⟨upd (fun _ => none) a (.frz { cls := .type "list", data := .seq vs.toArray } (.lst (ns.map V.int))), .inl ⟨_, upd_same⟩, fun b u z => ?_, fun b z => only z, .inr (Option.eq_none_iff_forall_not_mem.mpr fun o m => hk ⟨o, m⟩), fun b u z => ?_⟩
    · obtain rfl := only (b := b) (by rw [z]; simp)
      rw [upd_same] at z
      cases z
      exact ⟨ha, by rw [List.length_map]; exact hl, vs, _, rv, ha⟩
    · obtain rfl := only (b := b) (by rw [z]; simp)
      rw [upd_same] at z
      cases z
      exact ⟨_, _, rfl⟩
/-- the law's call, by its promise; the promise may use that nobody looks at the run -/
theorem call_law {P : Program} {w : World} {K : PySem.W.Frag} {mg mb : Str → Option Value} {k : Nat} {fa a : Addr} {x : Str} {s₁ : Shared} {vs : List Value} {ns : List Int}
    (KX : K.In s₁.heap) (gl : s₁.heap.Ns mainGlobals mg) (bl : s₁.heap.Ns builtinsNs mb) (bb : ∀ x : Str, x ≠ "__name__" → mb x = bootBuiltins x) (nl : s₁.heap.NoLimit) (sr : s₁.heap.NoSeer) (gens : s₁.gens = #[])
    (ha : s₁.heap.get? a = some { cls := .type "list", data := .seq vs.toArray }) (hi : IntsAre vs ns) (hl : ns.length ≤ sizeLine) (room : Room k callerA) (hf : mg "law" = some (.ref fa)) (F : ∀ base : Heap, base.NoSeer → Ok P w K mg base k "law" [x] (spLaw K)) :
    codeAny (model P w) callerA (.call (.ref fa) ⟨[.ref a], []⟩) (fun r s' => r = .ok (.ret (.bool true)) ∧ OldK s₁.heap s'.heap ∧ s'.os = s₁.os ∧ AllBare s'.gens) s₁ := by
  obtain ⟨H, hS, hok, only, hK, frz⟩ := script_heap (P := P) (w := w) KX ha hi hl
  have kin : K.In (hidT s₁.heap H) := fun b o e => by
    refine hidT_get (KX b o e) (Classical.byContradiction fun c => ?_)
    obtain rfl := only b c
    rcases hK with n | n
    · exact c n
    · rw [n] at e; cases e
  have md : Mod K mg (hidT s₁.heap H) := by
    obtain ⟨mc, n1, n2⟩ := nl
    exact ⟨kin, ns_stays only ha gl, ⟨mb, ns_stays only ha bl, bb⟩, ⟨mc, ns_stays only ha n1, n2⟩⟩
  have env : Env0 P w K mg (hidT s₁.heap H) callerA [] s₁ H := ⟨rfl, md, fun _ _ => of_hidT, Nat.le_of_eq (hidT_size _ _), trivial, (fun b hb => by cases hb), hok, .of_eq gens⟩
  obtain ⟨fb, fd, G0, e0, _, bd⟩ := F _ (seer_stays only ha sr)
  obtain rfl : fb = fa := Value.ref.inj (Option.some.inj (e0.symm.trans hf))
  have G := G0.run callerA [] s₁ H ⟨[.ref a], []⟩ [.ref a] [.ref a] (fun v _ => v = .bl true) (fun _ _ _ => False) room env (bd s₁ [.ref a] KX rfl) (.cons rfl .nil) ⟨a, ns, rfl, hS, fun _ => rfl⟩
  refine codeAny_mono G fun r s' z => ?_
  match r, z with
  | .ok (.ret u), z =>
    obtain ⟨v, H', e1, e2, un, ok', rv, rfl⟩ := z
    obtain rfl : u = .bool true := rv
    refine ⟨rfl, .of_keep fun b o e => ?_, e1, e2⟩
    cases q : H b with
    | none => exact un.keep b o e q (fun z => by cases z) (by simp)
    | some u =>
      obtain ⟨ob, xs, rfl⟩ := frz b u q
      have f1 := (hok b _ q).1
      rw [e] at f1
      cases f1
      exact (ok' b _ (un.frzs b _ _ q)).1
  | .error _, z => exact False.elim z
theorem walk_law {l : PySem.W.OpenLaw} {n k : Nat} {q : Program} {loose : List Str} {XP : (Str → Option Value) → Heap → Prop} {YP : World → Heap → Prop} {d : DefRec} {K : Params → PySem.W.Frag} {x : Str}
    (hn : l.most = some n) (hn2 : n ≤ sizeLine) (hdf : d.params.defaults = []) (room : Room k callerA) (hi : importsNone q = true) (hd : d.name = "law") (hY : ∀ (w : World) (h : Heap), YP w h → (K w.params).In h)
    (F : ∀ (w : World) (mg : Str → Option Value) (h : Heap), (K w.params).In h → h.Ns mainGlobals mg → ∀ base : Heap, base.NoSeer → Ok l.prog w (K w.params) mg base k "law" [x] (spLaw (K w.params))) :
    PySem.W.WalkO q loose XP YP l.row.toRowW d [] (fun f vs => PySem.call f vs) := by
  refine Att.attach_call hn hdf fun w _ s₁ mg mb fa _ _ _ _ a vs ns G Y _ _ _ hmg hobj hints hlen gens => ?_
  rw [hd] at hmg
  exact call_law (hY w _ Y) G.T.g G.T.b G.T.builtins G.T.nolimit (G.T.seer hi) gens hobj hints (Nat.le_trans hlen hn2) room hmg (F w mg _ (hY w _ Y) G.T.g)
end CN
end
section
set_option Elab.async false
set_option linter.all false
set_option maxRecDepth 100000
set_option maxHeartbeats 4000000
namespace CN
open PySem PySem.Spec PyProof.Rows L2 PQ
/-! ### what the module's written part tells -/
def absL : List Value → Option (List V)
  | [] => some []
  | u :: us => match absV u, absL us with
    | some x, some xs => some (x :: xs)
    | _, _ => none
theorem rel_abs {u : Value} {x : V} (h : absV u = some x) : RelV x u := by
  cases u <;> cases h <;> first | rfl | exact ⟨_, rfl⟩
theorem vals_abs : ∀ {us : List Value} {xs : List V}, absL us = some xs → Vals xs us
  | [], _, h => by cases h; exact .nil
  | u :: us, xs, h => by
    unfold absL at h
    split at h
    · rename_i x ys e1 e2
      cases h
      exact .cons (rel_abs e1) (vals_abs e2)
    · cases h
theorem sqT_mk {K : PySem.W.Frag} {z : Addr} {d : Option Addr} {i : Array Value} {n : Nat} {s : Array (Option Value)} {xs : List V} (l : K.lookup z = some ⟨.type "tuple", d, .seq i n, s⟩) (e : absL i.toList = some xs) (h : xs.length ≤ 1000) (H : Hp) : SqT K H z xs := by
  have r := vals_abs e
  have e2 : i.size = xs.length := by simpa using r.length.symm
  have e3 : i.size ≤ sizeLine := by rw [e2]; exact Nat.le_trans h line1000
  exact .inr ⟨_, i, n, l, rfl, rfl, e3, r⟩
section
variable {K : PySem.W.Frag} {h : Heap} {mg : Str → Option Value}
theorem df_mk {x : Str} {st : Stmt} {ps : List Str} {f : Addr} {oc : Value} {od an : Option Addr} {sl : Array (Option Value)} {kV doc pm cdv ct : Value} (X : K.In h) (G : h.Ns mainGlobals mg)
    (hb : ∀ (kV doc pm : Value) (an : Option Addr) (cdv ct : Value) (us : List Value), us.length = ps.length → bindArgs (PySem.W.fnOf x x (defArgs st) (defBody st) (defScope st) .none kV doc pm an cdv ct) ⟨us, []⟩ = pure (ps.zip us))
    (a : PySem.W.nsIn K mainGlobals x = some (some (.ref f))) (l : K.lookup f = some ⟨oc, od, .func (PySem.W.fnOf x x (defArgs st) (defBody st) (defScope st) .none kV doc pm an cdv ct), sl⟩)
    (c : PySem.W.codeIn K cdv x = true) (k : PySem.W.keepIn K (.ref f) = true) : Df K mg x st ps :=
  have F := fun_mk (st := st) l c k
  ⟨f, _, F, PySem.W.mg_of X G a, F.binds hb⟩
theorem kc_mk {x : Str} {p q : List Int} {z u v : Addr} {d1 d2 d3 : Option Addr} {i1 i2 i3 : Array Value} {n1 n2 n3 : Nat} {s1 s2 s3 : Array (Option Value)} (X : K.In h) (G : h.Ns mainGlobals mg) (a : PySem.W.nsIn K mainGlobals x = some (some (.ref z)))
    (l1 : K.lookup z = some ⟨.type "tuple", d1, .seq i1 n1, s1⟩) (e1 : absL i1.toList = some [.ref u, .ref v]) (l2 : K.lookup u = some ⟨.type "tuple", d2, .seq i2 n2, s2⟩) (e2 : absL i2.toList = some (p.map V.int))
    (l3 : K.lookup v = some ⟨.type "tuple", d3, .seq i3 n3, s3⟩) (e3 : absL i3.toList = some (q.map V.int)) (lp : p.length ≤ 1000 := by decide) (lq : q.length ≤ 1000 := by decide) : Kc K mg x (p, q) :=
  ⟨z, PySem.W.mg_of X G a, fun H => ⟨z, .ref u, .ref v, rfl, sqT_mk l1 e1 (by show 2 ≤ 1000; decide) H, ⟨u, rfl, sqT_mk l2 e2 (by rw [List.length_map]; exact lp) H⟩, ⟨v, rfl, sqT_mk l3 e3 (by rw [List.length_map]; exact lq) H⟩⟩⟩
theorem kt_mk {x : Str} {xs : List V} {z : Addr} {d1 : Option Addr} {i1 : Array Value} {n1 : Nat} {s1 : Array (Option Value)} (X : K.In h) (G : h.Ns mainGlobals mg) (a : PySem.W.nsIn K mainGlobals x = some (some (.ref z)))
    (l1 : K.lookup z = some ⟨.type "tuple", d1, .seq i1 n1, s1⟩) (e1 : absL i1.toList = some xs) (lx : xs.length ≤ 1000 := by decide) : Kt K mg x xs := ⟨z, PySem.W.mg_of X G a, fun H => sqT_mk l1 e1 lx H⟩
theorem ki_mk {x : Str} {i : Int} {t : Nat} (X : K.In h) (G : h.Ns mainGlobals mg) (a : PySem.W.nsIn K mainGlobals x = some (some (.int i t))) : Ki mg x i := ⟨t, PySem.W.mg_of X G a⟩
theorem ks_mk {x z : Str} {t : Nat} (X : K.In h) (G : h.Ns mainGlobals mg) (a : PySem.W.nsIn K mainGlobals x = some (some (.str z t))) : Ks mg x z := ⟨t, PySem.W.mg_of X G a⟩
theorem kn_mk {z u v : Addr} {d1 : Option Addr} {i1 : Array Value} {n1 : Nat} {s1 : Array (Option Value)} (X : K.In h) (G : h.Ns mainGlobals mg) (a : PySem.W.nsIn K mainGlobals "NOTHING" = some (some (.ref z)))
    (l1 : K.lookup z = some ⟨.type "tuple", d1, .seq i1 n1, s1⟩) (e1 : absL i1.toList = some [.ref u, .ref v, .ref v, .ref u]) (o : PySem.W.nsIn K mainGlobals "ONE" = some (some (.ref u))) (b : PySem.W.nsIn K mainGlobals "ZERO" = some (some (.ref v)))
    (c1 : Kc K mg "ONE" ([1], [1])) (c2 : Kc K mg "ZERO" ([], [1])) : Kn K mg := by
  obtain ⟨u', m1, f1⟩ := c1
  obtain ⟨v', m2, f2⟩ := c2
  cases m1.symm.trans (PySem.W.mg_of X G o)
  cases m2.symm.trans (PySem.W.mg_of X G b)
  exact ⟨z, PySem.W.mg_of X G a, fun H => ⟨z, .ref u, .ref v, .ref v, .ref u, _, _, _, _, rfl, sqT_mk l1 e1 (by show 4 ≤ 1000; decide) H, f1 H, f2 H, f2 H, f1 H, is_one, is_zero, is_zero, is_one⟩⟩
end
abbrev HB (x : Str) (st : Stmt) (ps : List Str) : Prop := ∀ (kV doc pm : Value) (an : Option Addr) (cdv ct : Value) (us : List Value), us.length = ps.length → bindArgs (PySem.W.fnOf x x (defArgs st) (defBody st) (defScope st) .none kV doc pm an cdv ct) ⟨us, []⟩ = pure (ps.zip us)
theorem hb_is_int : HB "is_int" sIsInt ["value"] := fun _ _ _ _ _ _ us hl => match us, hl with | [_], _ => rfl
theorem hb_is_in : HB "is_in" sIsIn ["value", "least", "most"] := fun _ _ _ _ _ _ us hl => match us, hl with | [_, _, _], _ => rfl
theorem hb_trimmed : HB "trimmed" sTrimmed ["some"] := fun _ _ _ _ _ _ us hl => match us, hl with | [_], _ => rfl
theorem hb_poly_plus : HB "poly_plus" sPlus ["one", "other"] := fun _ _ _ _ _ _ us hl => match us, hl with | [_, _], _ => rfl
theorem hb_scaled : HB "scaled" sScaled ["one", "factor"] := fun _ _ _ _ _ _ us hl => match us, hl with | [_, _], _ => rfl
theorem hb_poly_minus : HB "poly_minus" sMinus ["one", "other"] := fun _ _ _ _ _ _ us hl => match us, hl with | [_, _], _ => rfl
theorem hb_poly_times : HB "poly_times" sTimes ["one", "other"] := fun _ _ _ _ _ _ us hl => match us, hl with | [_, _], _ => rfl
theorem hb_content : HB "content" sContent ["one"] := fun _ _ _ _ _ _ us hl => match us, hl with | [_], _ => rfl
theorem hb_primitive : HB "primitive" sPrim ["one"] := fun _ _ _ _ _ _ us hl => match us, hl with | [_], _ => rfl
theorem hb_remainder : HB "remainder" sRem ["one", "other"] := fun _ _ _ _ _ _ us hl => match us, hl with | [_, _], _ => rfl
theorem hb_common : HB "common" sCommon ["one", "other"] := fun _ _ _ _ _ _ us hl => match us, hl with | [_, _], _ => rfl
theorem hb_quotient : HB "quotient" sQuot ["one", "other"] := fun _ _ _ _ _ _ us hl => match us, hl with | [_, _], _ => rfl
theorem hb_made : HB "made" sMade ["top", "bottom"] := fun _ _ _ _ _ _ us hl => match us, hl with | [_, _], _ => rfl
theorem hb_is_poly : HB "is_poly" sIsPoly ["value"] := fun _ _ _ _ _ _ us hl => match us, hl with | [_], _ => rfl
theorem hb_need_poly : HB "need_poly" sNeedPoly ["value"] := fun _ _ _ _ _ _ us hl => match us, hl with | [_], _ => rfl
theorem hb_small : HB "small" sSmall ["one"] := fun _ _ _ _ _ _ us hl => match us, hl with | [_], _ => rfl
theorem hb_is_function : HB "is_function" sIsFn ["value"] := fun _ _ _ _ _ _ us hl => match us, hl with | [_], _ => rfl
theorem hb_need_function : HB "need_function" sNeedFn ["value"] := fun _ _ _ _ _ _ us hl => match us, hl with | [_], _ => rfl
theorem hb_function : HB "function" sFunction ["top", "bottom"] := fun _ _ _ _ _ _ us hl => match us, hl with | [_, _], _ => rfl
theorem hb_times_of : HB "times_of" sTimesOf ["one", "other"] := fun _ _ _ _ _ _ us hl => match us, hl with | [_, _], _ => rfl
theorem hb_back_of : HB "back_of" sBackOf ["one"] := fun _ _ _ _ _ _ us hl => match us, hl with | [_], _ => rfl
theorem hb_over_of : HB "over_of" sOverOf ["one", "other"] := fun _ _ _ _ _ _ us hl => match us, hl with | [_, _], _ => rfl
theorem hb_plus_of : HB "plus_of" sPlusOf ["one", "other"] := fun _ _ _ _ _ _ us hl => match us, hl with | [_, _], _ => rfl
theorem hb_minus_of : HB "minus_of" sMinusOf ["one", "other"] := fun _ _ _ _ _ _ us hl => match us, hl with | [_, _], _ => rfl
theorem hb_add : HB "add" sAdd ["one", "other"] := fun _ _ _ _ _ _ us hl => match us, hl with | [_, _], _ => rfl
theorem hb_subtract : HB "subtract" sSub ["one", "other"] := fun _ _ _ _ _ _ us hl => match us, hl with | [_, _], _ => rfl
theorem hb_multiply : HB "multiply" sMul ["one", "other"] := fun _ _ _ _ _ _ us hl => match us, hl with | [_, _], _ => rfl
theorem hb_measure : HB "measure" sMeasure ["chain"] := fun _ _ _ _ _ _ us hl => match us, hl with | [_], _ => rfl
theorem hb_need_chain : HB "need_chain" sNeedChain ["value"] := fun _ _ _ _ _ _ us hl => match us, hl with | [_], _ => rfl
theorem hb_all_small : HB "all_small" sAllSmall ["some"] := fun _ _ _ _ _ _ us hl => match us, hl with | [_], _ => rfl
theorem hb_negative : HB "negative" sNegative ["one"] := fun _ _ _ _ _ _ us hl => match us, hl with | [_], _ => rfl
theorem hb_impedances : HB "impedances" sImp ["chain"] := fun _ _ _ _ _ _ us hl => match us, hl with | [_], _ => rfl
theorem hb_admittances : HB "admittances" sAdm ["chain"] := fun _ _ _ _ _ _ us hl => match us, hl with | [_], _ => rfl
theorem hb_hybrids : HB "hybrids" sHyb ["chain"] := fun _ _ _ _ _ _ us hl => match us, hl with | [_], _ => rfl
theorem hb_shown : HB "shown" sShown ["some"] := fun _ _ _ _ _ _ us hl => match us, hl with | [_], _ => rfl
theorem hb_impedances_of : HB "impedances_of" sImpOf ["chain"] := fun _ _ _ _ _ _ us hl => match us, hl with | [_], _ => rfl
theorem hb_admittances_of : HB "admittances_of" sAdmOf ["chain"] := fun _ _ _ _ _ _ us hl => match us, hl with | [_], _ => rfl
theorem hb_hybrids_of : HB "hybrids_of" sHybOf ["chain"] := fun _ _ _ _ _ _ us hl => match us, hl with | [_], _ => rfl
theorem hb_need_four : HB "need_four" sNeedFour ["value"] := fun _ _ _ _ _ _ us hl => match us, hl with | [_], _ => rfl
theorem hb_good_chain : HB "good_chain" sGood ["chain"] := fun _ _ _ _ _ _ us hl => match us, hl with | [_], _ => rfl
theorem hb_chain_of : HB "chain_of" sChainOf ["p", "q", "r", "t"] := fun _ _ _ _ _ _ us hl => match us, hl with | [_, _, _, _], _ => rfl
theorem hb_chain_by_impedances : HB "chain_by_impedances" sByImp ["four"] := fun _ _ _ _ _ _ us hl => match us, hl with | [_], _ => rfl
theorem hb_from_impedances : HB "from_impedances" sFromImp ["four"] := fun _ _ _ _ _ _ us hl => match us, hl with | [_], _ => rfl
theorem hb_chain_by_admittances : HB "chain_by_admittances" sByAdm ["four"] := fun _ _ _ _ _ _ us hl => match us, hl with | [_], _ => rfl
theorem hb_from_admittances : HB "from_admittances" sFromAdm ["four"] := fun _ _ _ _ _ _ us hl => match us, hl with | [_], _ => rfl
theorem hb_is_ratio : HB "is_ratio" sIsRatio ["value"] := fun _ _ _ _ _ _ us hl => match us, hl with | [_], _ => rfl
theorem hb_constant_of : HB "constant_of" sConstOf ["told"] := fun _ _ _ _ _ _ us hl => match us, hl with | [_], _ => rfl
theorem hb_impedance_of : HB "impedance_of" sImpedanceOf ["part"] := fun _ _ _ _ _ _ us hl => match us, hl with | [_], _ => rfl
theorem hb_is_rung : HB "is_rung" sIsRung ["value"] := fun _ _ _ _ _ _ us hl => match us, hl with | [_], _ => rfl
theorem hb_need_ladder : HB "need_ladder" sNeedLadder ["value"] := fun _ _ _ _ _ _ us hl => match us, hl with | [_], _ => rfl
theorem hb_rung_impedance : HB "rung_impedance" sRungImp ["rung"] := fun _ _ _ _ _ _ us hl => match us, hl with | [_], _ => rfl
theorem hb_series : HB "series" sSeries ["one"] := fun _ _ _ _ _ _ us hl => match us, hl with | [_], _ => rfl
theorem hb_across : HB "across" sAcross ["one"] := fun _ _ _ _ _ _ us hl => match us, hl with | [_], _ => rfl
theorem hb_product : HB "product" sProduct ["one", "other"] := fun _ _ _ _ _ _ us hl => match us, hl with | [_, _], _ => rfl
theorem hb_ladder_chain : HB "ladder_chain" sLadder ["ladder"] := fun _ _ _ _ _ _ us hl => match us, hl with | [_], _ => rfl
theorem hb__law_taken : HB "_law_taken" lTaken ["_law_row", "_law_many"] := fun _ _ _ _ _ _ us hl => match us, hl with | [_, _], _ => rfl
theorem hb__law_pick : HB "_law_pick" lPick ["_law_row", "_law_things"] := fun _ _ _ _ _ _ us hl => match us, hl with | [_, _], _ => rfl
theorem hb__law_trim : HB "_law_trim" lTrim ["_law_some_here"] := fun _ _ _ _ _ _ us hl => match us, hl with | [_], _ => rfl
theorem hb__law_times : HB "_law_times" lTimes ["_law_one", "_law_other"] := fun _ _ _ _ _ _ us hl => match us, hl with | [_, _], _ => rfl
theorem hb__law_shared : HB "_law_shared" lShared ["_law_one", "_law_other"] := fun _ _ _ _ _ _ us hl => match us, hl with | [_, _], _ => rfl
theorem hb__law_ratio : HB "_law_ratio" lRatio ["_law_top", "_law_bottom"] := fun _ _ _ _ _ _ us hl => match us, hl with | [_, _], _ => rfl
theorem hb__law_poly : HB "_law_poly" lPoly ["_law_row", "_law_most", "_law_size"] := fun _ _ _ _ _ _ us hl => match us, hl with | [_, _, _], _ => rfl
theorem hb__law_some : HB "_law_some" lSome ["_law_row", "_law_most", "_law_size"] := fun _ _ _ _ _ _ us hl => match us, hl with | [_, _, _], _ => rfl
theorem hb__law_linear : HB "_law_linear" lLinear ["_law_row"] := fun _ _ _ _ _ _ us hl => match us, hl with | [_], _ => rfl
theorem hb__law_draw : HB "_law_draw" lDraw ["_law_row", "_law_most"] := fun _ _ _ _ _ _ us hl => match us, hl with | [_, _], _ => rfl
theorem hb__law_worth : HB "_law_worth" lWorth ["_law_row"] := fun _ _ _ _ _ _ us hl => match us, hl with | [_], _ => rfl
theorem hb__law_chain : HB "_law_chain" lChain ["_law_row"] := fun _ _ _ _ _ _ us hl => match us, hl with | [_], _ => rfl
theorem hb_law : HB "law" lLaw ["_law_script"] := fun _ _ _ _ _ _ us hl => match us, hl with | [_], _ => rfl
/-- all that the promises rest on -/
structure Facts (K : PySem.W.Frag) (mg : Str → Option Value) : Prop where
  B : Bi mg
  c0 : Kc K mg "ZERO" ([], [1])
  c1 : Ki mg "MOST_DEGREE" 12
  c2 : Ki mg "MOST_SIZE" (10 ^ 60)
  c3 : Kc K mg "VARIABLE" ([0, 1], [1])
  c4 : Kt K mg "PLACES" [.str "S", .str "P"]
  c5 : Kt K mg "KINDS" [.str "R", .str "L", .str "C"]
  c6 : Ki mg "MOST_RUNGS" 13
  c7 : Kc K mg "ONE" ([1], [1])
  c8 : Kn K mg
  c9 : Ks mg "SERIES" "S"
  d_is_int : Df K mg "is_int" sIsInt ["value"]
  d_is_in : Df K mg "is_in" sIsIn ["value", "least", "most"]
  d_trimmed : Df K mg "trimmed" sTrimmed ["some"]
  d_poly_plus : Df K mg "poly_plus" sPlus ["one", "other"]
  d_scaled : Df K mg "scaled" sScaled ["one", "factor"]
  d_poly_minus : Df K mg "poly_minus" sMinus ["one", "other"]
  d_poly_times : Df K mg "poly_times" sTimes ["one", "other"]
  d_content : Df K mg "content" sContent ["one"]
  d_primitive : Df K mg "primitive" sPrim ["one"]
  d_remainder : Df K mg "remainder" sRem ["one", "other"]
  d_common : Df K mg "common" sCommon ["one", "other"]
  d_quotient : Df K mg "quotient" sQuot ["one", "other"]
  d_made : Df K mg "made" sMade ["top", "bottom"]
  d_is_poly : Df K mg "is_poly" sIsPoly ["value"]
  d_need_poly : Df K mg "need_poly" sNeedPoly ["value"]
  d_small : Df K mg "small" sSmall ["one"]
  d_is_function : Df K mg "is_function" sIsFn ["value"]
  d_need_function : Df K mg "need_function" sNeedFn ["value"]
  d_function : Df K mg "function" sFunction ["top", "bottom"]
  d_times_of : Df K mg "times_of" sTimesOf ["one", "other"]
  d_back_of : Df K mg "back_of" sBackOf ["one"]
  d_over_of : Df K mg "over_of" sOverOf ["one", "other"]
  d_plus_of : Df K mg "plus_of" sPlusOf ["one", "other"]
  d_minus_of : Df K mg "minus_of" sMinusOf ["one", "other"]
  d_add : Df K mg "add" sAdd ["one", "other"]
  d_subtract : Df K mg "subtract" sSub ["one", "other"]
  d_multiply : Df K mg "multiply" sMul ["one", "other"]
  d_measure : Df K mg "measure" sMeasure ["chain"]
  d_need_chain : Df K mg "need_chain" sNeedChain ["value"]
  d_all_small : Df K mg "all_small" sAllSmall ["some"]
  d_negative : Df K mg "negative" sNegative ["one"]
  d_impedances : Df K mg "impedances" sImp ["chain"]
  d_admittances : Df K mg "admittances" sAdm ["chain"]
  d_hybrids : Df K mg "hybrids" sHyb ["chain"]
  d_shown : Df K mg "shown" sShown ["some"]
  d_impedances_of : Df K mg "impedances_of" sImpOf ["chain"]
  d_admittances_of : Df K mg "admittances_of" sAdmOf ["chain"]
  d_hybrids_of : Df K mg "hybrids_of" sHybOf ["chain"]
  d_need_four : Df K mg "need_four" sNeedFour ["value"]
  d_good_chain : Df K mg "good_chain" sGood ["chain"]
  d_chain_of : Df K mg "chain_of" sChainOf ["p", "q", "r", "t"]
  d_chain_by_impedances : Df K mg "chain_by_impedances" sByImp ["four"]
  d_from_impedances : Df K mg "from_impedances" sFromImp ["four"]
  d_chain_by_admittances : Df K mg "chain_by_admittances" sByAdm ["four"]
  d_from_admittances : Df K mg "from_admittances" sFromAdm ["four"]
  d_is_ratio : Df K mg "is_ratio" sIsRatio ["value"]
  d_constant_of : Df K mg "constant_of" sConstOf ["told"]
  d_impedance_of : Df K mg "impedance_of" sImpedanceOf ["part"]
  d_is_rung : Df K mg "is_rung" sIsRung ["value"]
  d_need_ladder : Df K mg "need_ladder" sNeedLadder ["value"]
  d_rung_impedance : Df K mg "rung_impedance" sRungImp ["rung"]
  d_series : Df K mg "series" sSeries ["one"]
  d_across : Df K mg "across" sAcross ["one"]
  d_product : Df K mg "product" sProduct ["one", "other"]
  d_ladder_chain : Df K mg "ladder_chain" sLadder ["ladder"]
  d__law_taken : Df K mg "_law_taken" lTaken ["_law_row", "_law_many"]
  d__law_pick : Df K mg "_law_pick" lPick ["_law_row", "_law_things"]
  d__law_trim : Df K mg "_law_trim" lTrim ["_law_some_here"]
  d__law_times : Df K mg "_law_times" lTimes ["_law_one", "_law_other"]
  d__law_shared : Df K mg "_law_shared" lShared ["_law_one", "_law_other"]
  d__law_ratio : Df K mg "_law_ratio" lRatio ["_law_top", "_law_bottom"]
  d__law_poly : Df K mg "_law_poly" lPoly ["_law_row", "_law_most", "_law_size"]
  d__law_some : Df K mg "_law_some" lSome ["_law_row", "_law_most", "_law_size"]
  d__law_linear : Df K mg "_law_linear" lLinear ["_law_row"]
  d__law_draw : Df K mg "_law_draw" lDraw ["_law_row", "_law_most"]
  d__law_worth : Df K mg "_law_worth" lWorth ["_law_row"]
  d__law_chain : Df K mg "_law_chain" lChain ["_law_row"]
  d_law : Df K mg "law" lLaw ["_law_script"]
theorem facts_mk {K : PySem.W.Frag} {mg : Str → Option Value} (B : Bi mg) (c0 : Kc K mg "ZERO" ([], [1])) (c1 : Ki mg "MOST_DEGREE" 12) (c2 : Ki mg "MOST_SIZE" (10 ^ 60)) (c3 : Kc K mg "VARIABLE" ([0, 1], [1])) (c4 : Kt K mg "PLACES" [.str "S", .str "P"]) (c5 : Kt K mg "KINDS" [.str "R", .str "L", .str "C"]) (c6 : Ki mg "MOST_RUNGS" 13) (c7 : Kc K mg "ONE" ([1], [1])) (c8 : Kc K mg "ONE" ([1], [1]) → Kc K mg "ZERO" ([], [1]) → Kn K mg) (c9 : Ks mg "SERIES" "S") (d_is_int : Df K mg "is_int" sIsInt ["value"]) (d_is_in : Df K mg "is_in" sIsIn ["value", "least", "most"]) (d_trimmed : Df K mg "trimmed" sTrimmed ["some"]) (d_poly_plus : Df K mg "poly_plus" sPlus ["one", "other"]) (d_scaled : Df K mg "scaled" sScaled ["one", "factor"]) (d_poly_minus : Df K mg "poly_minus" sMinus ["one", "other"]) (d_poly_times : Df K mg "poly_times" sTimes ["one", "other"]) (d_content : Df K mg "content" sContent ["one"]) (d_primitive : Df K mg "primitive" sPrim ["one"]) (d_remainder : Df K mg "remainder" sRem ["one", "other"]) (d_common : Df K mg "common" sCommon ["one", "other"]) (d_quotient : Df K mg "quotient" sQuot ["one", "other"]) (d_made : Df K mg "made" sMade ["top", "bottom"]) (d_is_poly : Df K mg "is_poly" sIsPoly ["value"]) (d_need_poly : Df K mg "need_poly" sNeedPoly ["value"]) (d_small : Df K mg "small" sSmall ["one"]) (d_is_function : Df K mg "is_function" sIsFn ["value"]) (d_need_function : Df K mg "need_function" sNeedFn ["value"]) (d_function : Df K mg "function" sFunction ["top", "bottom"]) (d_times_of : Df K mg "times_of" sTimesOf ["one", "other"]) (d_back_of : Df K mg "back_of" sBackOf ["one"]) (d_over_of : Df K mg "over_of" sOverOf ["one", "other"]) (d_plus_of : Df K mg "plus_of" sPlusOf ["one", "other"]) (d_minus_of : Df K mg "minus_of" sMinusOf ["one", "other"]) (d_add : Df K mg "add" sAdd ["one", "other"]) (d_subtract : Df K mg "subtract" sSub ["one", "other"]) (d_multiply : Df K mg "multiply" sMul ["one", "other"]) (d_measure : Df K mg "measure" sMeasure ["chain"]) (d_need_chain : Df K mg "need_chain" sNeedChain ["value"]) (d_all_small : Df K mg "all_small" sAllSmall ["some"]) (d_negative : Df K mg "negative" sNegative ["one"]) (d_impedances : Df K mg "impedances" sImp ["chain"]) (d_admittances : Df K mg "admittances" sAdm ["chain"]) (d_hybrids : Df K mg "hybrids" sHyb ["chain"]) (d_shown : Df K mg "shown" sShown ["some"]) (d_impedances_of : Df K mg "impedances_of" sImpOf ["chain"]) (d_admittances_of : Df K mg "admittances_of" sAdmOf ["chain"]) (d_hybrids_of : Df K mg "hybrids_of" sHybOf ["chain"]) (d_need_four : Df K mg "need_four" sNeedFour ["value"]) (d_good_chain : Df K mg "good_chain" sGood ["chain"]) (d_chain_of : Df K mg "chain_of" sChainOf ["p", "q", "r", "t"]) (d_chain_by_impedances : Df K mg "chain_by_impedances" sByImp ["four"]) (d_from_impedances : Df K mg "from_impedances" sFromImp ["four"]) (d_chain_by_admittances : Df K mg "chain_by_admittances" sByAdm ["four"]) (d_from_admittances : Df K mg "from_admittances" sFromAdm ["four"]) (d_is_ratio : Df K mg "is_ratio" sIsRatio ["value"]) (d_constant_of : Df K mg "constant_of" sConstOf ["told"]) (d_impedance_of : Df K mg "impedance_of" sImpedanceOf ["part"]) (d_is_rung : Df K mg "is_rung" sIsRung ["value"]) (d_need_ladder : Df K mg "need_ladder" sNeedLadder ["value"]) (d_rung_impedance : Df K mg "rung_impedance" sRungImp ["rung"]) (d_series : Df K mg "series" sSeries ["one"]) (d_across : Df K mg "across" sAcross ["one"]) (d_product : Df K mg "product" sProduct ["one", "other"]) (d_ladder_chain : Df K mg "ladder_chain" sLadder ["ladder"]) (d__law_taken : Df K mg "_law_taken" lTaken ["_law_row", "_law_many"]) (d__law_pick : Df K mg "_law_pick" lPick ["_law_row", "_law_things"]) (d__law_trim : Df K mg "_law_trim" lTrim ["_law_some_here"]) (d__law_times : Df K mg "_law_times" lTimes ["_law_one", "_law_other"]) (d__law_shared : Df K mg "_law_shared" lShared ["_law_one", "_law_other"]) (d__law_ratio : Df K mg "_law_ratio" lRatio ["_law_top", "_law_bottom"]) (d__law_poly : Df K mg "_law_poly" lPoly ["_law_row", "_law_most", "_law_size"]) (d__law_some : Df K mg "_law_some" lSome ["_law_row", "_law_most", "_law_size"]) (d__law_linear : Df K mg "_law_linear" lLinear ["_law_row"]) (d__law_draw : Df K mg "_law_draw" lDraw ["_law_row", "_law_most"]) (d__law_worth : Df K mg "_law_worth" lWorth ["_law_row"]) (d__law_chain : Df K mg "_law_chain" lChain ["_law_row"]) (d_law : Df K mg "law" lLaw ["_law_script"]) : Facts K mg := Facts.mk B c0 c1 c2 c3 c4 c5 c6 c7 (c8 c7 c0) c9 d_is_int d_is_in d_trimmed d_poly_plus d_scaled d_poly_minus d_poly_times d_content d_primitive d_remainder d_common d_quotient d_made d_is_poly d_need_poly d_small d_is_function d_need_function d_function d_times_of d_back_of d_over_of d_plus_of d_minus_of d_add d_subtract d_multiply d_measure d_need_chain d_all_small d_negative d_impedances d_admittances d_hybrids d_shown d_impedances_of d_admittances_of d_hybrids_of d_need_four d_good_chain d_chain_of d_chain_by_impedances d_from_impedances d_chain_by_admittances d_from_admittances d_is_ratio d_constant_of d_impedance_of d_is_rung d_need_ladder d_rung_impedance d_series d_across d_product d_ladder_chain d__law_taken d__law_pick d__law_trim d__law_times d__law_shared d__law_ratio d__law_poly d__law_some d__law_linear d__law_draw d__law_worth d__law_chain d_law
section
variable {P : Program} {w : World} {K : PySem.W.Frag} {mg : Str → Option Value} {base : Heap}
theorem law_ok (F : Facts K mg) (PB : PyBase P base) : Ok P w K mg base 41 "law" ["_law_script"] (spLaw K) := by
  have r_is_int := ok_is_int (P := P) (w := w) (K := K) (mg := mg) (base := base) F.d_is_int F.B
  have r_is_in := ok_is_in (P := P) (w := w) (K := K) (mg := mg) (base := base) F.d_is_in r_is_int
  have r_trimmed := ok_trimmed (P := P) (w := w) (K := K) (mg := mg) (base := base) F.d_trimmed F.B
  have r_poly_plus := ok_plus (P := P) (w := w) (K := K) (mg := mg) (base := base) F.d_poly_plus F.B r_trimmed
  have r_scaled := ok_scaled (P := P) (w := w) (K := K) (mg := mg) (base := base) F.d_scaled r_trimmed
  have r_poly_minus := ok_minus (P := P) (w := w) (K := K) (mg := mg) (base := base) F.d_poly_minus r_scaled r_poly_plus
  have r_poly_times := ok_times (P := P) (w := w) (K := K) (mg := mg) (base := base) F.d_poly_times F.B r_trimmed
  have r_content := ok_content (P := P) (w := w) (K := K) (mg := mg) (base := base) F.d_content F.B
  have r_primitive := ok_prim (P := P) (w := w) (K := K) (mg := mg) (base := base) F.d_primitive F.B PB r_content
  have r_remainder := ok_rem (P := P) (w := w) (K := K) (mg := mg) (base := base) F.d_remainder F.B PB r_content r_scaled r_poly_minus
  have r_common := ok_common (P := P) (w := w) (K := K) (mg := mg) (base := base) F.d_common r_remainder r_primitive
  have r_quotient := ok_quot (P := P) (w := w) (K := K) (mg := mg) (base := base) F.d_quotient F.B PB r_trimmed
  have r_made := ok_made (P := P) (w := w) (K := K) (mg := mg) (base := base) F.d_made F.B PB F.c0 r_content r_common r_quotient
  have r_is_poly := ok_is_poly (P := P) (w := w) (K := K) (mg := mg) (base := base) F.d_is_poly F.B F.c1 F.c2 r_is_in
  have r_need_poly := ok_need_poly (P := P) (w := w) (K := K) (mg := mg) (base := base) F.d_need_poly r_is_poly
  have r_small := ok_small (P := P) (w := w) (K := K) (mg := mg) (base := base) F.d_small F.B F.c1
  have r_is_function := ok_is_fn (P := P) (w := w) (K := K) (mg := mg) (base := base) F.d_is_function F.B r_is_poly r_made
  have r_need_function := ok_need_fn (P := P) (w := w) (K := K) (mg := mg) (base := base) F.d_need_function r_is_function
  have r_function := ok_function (P := P) (w := w) (K := K) (mg := mg) (base := base) F.d_function r_need_poly r_made
  have r_times_of := ok_times_of (P := P) (w := w) (K := K) (mg := mg) (base := base) F.d_times_of r_poly_times r_made
  have r_back_of := ok_back_of (P := P) (w := w) (K := K) (mg := mg) (base := base) F.d_back_of r_made
  have r_over_of := ok_over_of (P := P) (w := w) (K := K) (mg := mg) (base := base) F.d_over_of r_times_of r_back_of
  have r_plus_of := ok_plus_of (P := P) (w := w) (K := K) (mg := mg) (base := base) F.d_plus_of r_poly_times r_poly_plus r_made
  have r_minus_of := ok_minus_of (P := P) (w := w) (K := K) (mg := mg) (base := base) F.d_minus_of r_poly_times r_poly_minus r_made
  have r_add := ok_add (P := P) (w := w) (K := K) (mg := mg) (base := base) F.d_add r_need_function r_plus_of r_small
  have r_subtract := ok_sub (P := P) (w := w) (K := K) (mg := mg) (base := base) F.d_subtract r_need_function r_minus_of r_small
  have r_multiply := ok_mul (P := P) (w := w) (K := K) (mg := mg) (base := base) F.d_multiply r_need_function r_times_of r_small
  have r_measure := ok_measure (P := P) (w := w) (K := K) (mg := mg) (base := base) F.d_measure r_times_of r_minus_of
  have r_need_chain := ok_need_chain (P := P) (w := w) (K := K) (mg := mg) (base := base) F.d_need_chain F.B F.c0 r_is_function r_measure
  have r_all_small := ok_all_small (P := P) (w := w) (K := K) (mg := mg) (base := base) F.d_all_small F.B r_small
  have r_negative := ok_negative (P := P) (w := w) (K := K) (mg := mg) (base := base) F.d_negative F.c0 r_minus_of
  have r_impedances := ok_impedances (P := P) (w := w) (K := K) (mg := mg) (base := base) F.d_impedances F.c0 r_over_of r_back_of r_measure
  have r_admittances := ok_admittances (P := P) (w := w) (K := K) (mg := mg) (base := base) F.d_admittances F.c0 r_over_of r_back_of r_measure r_negative
  have r_hybrids := ok_hybrids (P := P) (w := w) (K := K) (mg := mg) (base := base) F.d_hybrids F.c0 r_over_of r_back_of r_measure r_negative
  have r_shown := ok_shown (P := P) (w := w) (K := K) (mg := mg) (base := base) F.d_shown r_all_small
  have r_impedances_of := ok_impedances_of (P := P) (w := w) (K := K) (mg := mg) (base := base) F.d_impedances_of r_need_chain r_shown r_impedances
  have r_admittances_of := ok_admittances_of (P := P) (w := w) (K := K) (mg := mg) (base := base) F.d_admittances_of r_need_chain r_shown r_admittances
  have r_hybrids_of := ok_hybrids_of (P := P) (w := w) (K := K) (mg := mg) (base := base) F.d_hybrids_of r_need_chain r_shown r_hybrids
  have r_need_four := ok_need_four (P := P) (w := w) (K := K) (mg := mg) (base := base) F.d_need_four F.B r_is_function
  have r_good_chain := ok_good_chain (P := P) (w := w) (K := K) (mg := mg) (base := base) F.d_good_chain F.c0 r_measure r_all_small
  have r_chain_of := ok_chain_of (P := P) (w := w) (K := K) (mg := mg) (base := base) F.d_chain_of r_over_of r_back_of r_times_of r_minus_of
  have r_chain_by_impedances := ok_by_imp (P := P) (w := w) (K := K) (mg := mg) (base := base) F.d_chain_by_impedances F.c0 r_good_chain r_chain_of
  have r_from_impedances := ok_from_imp (P := P) (w := w) (K := K) (mg := mg) (base := base) F.d_from_impedances r_need_four r_chain_by_impedances
  have r_chain_by_admittances := ok_by_adm (P := P) (w := w) (K := K) (mg := mg) (base := base) F.d_chain_by_admittances F.c0 r_good_chain r_back_of r_times_of r_minus_of r_negative
  have r_from_admittances := ok_from_adm (P := P) (w := w) (K := K) (mg := mg) (base := base) F.d_from_admittances r_need_four r_chain_by_admittances
  have r_is_ratio := ok_is_ratio (P := P) (w := w) (K := K) (mg := mg) (base := base) F.d_is_ratio F.B F.c2 r_is_int
  have r_constant_of := ok_const_of (P := P) (w := w) (K := K) (mg := mg) (base := base) F.d_constant_of F.c0
  have r_impedance_of := ok_impedance_of (P := P) (w := w) (K := K) (mg := mg) (base := base) F.d_impedance_of F.c3 r_constant_of r_times_of r_back_of
  have r_is_rung := ok_is_rung (P := P) (w := w) (K := K) (mg := mg) (base := base) F.d_is_rung F.B F.c4 F.c5 r_is_ratio
  have r_need_ladder := ok_need_ladder (P := P) (w := w) (K := K) (mg := mg) (base := base) F.d_need_ladder F.B F.c6 r_is_rung
  have r_rung_impedance := ok_rung_imp (P := P) (w := w) (K := K) (mg := mg) (base := base) F.d_rung_impedance r_impedance_of
  have r_series := ok_series (P := P) (w := w) (K := K) (mg := mg) (base := base) F.d_series F.c0 F.c7
  have r_across := ok_across (P := P) (w := w) (K := K) (mg := mg) (base := base) F.d_across F.c0 F.c7 r_back_of
  have r_product := ok_product (P := P) (w := w) (K := K) (mg := mg) (base := base) F.d_product r_times_of r_plus_of
  have r_ladder_chain := ok_ladder (P := P) (w := w) (K := K) (mg := mg) (base := base) F.d_ladder_chain F.c8 F.c9 r_need_ladder r_rung_impedance r_product r_series r_across r_all_small
  have r__law_taken := ol_taken (P := P) (w := w) (K := K) (mg := mg) (base := base) F.d__law_taken F.B
  have r__law_pick := ol_pick (P := P) (w := w) (K := K) (mg := mg) (base := base) F.d__law_pick F.B r__law_taken
  have r__law_trim := ol_trim (P := P) (w := w) (K := K) (mg := mg) (base := base) F.d__law_trim F.B
  have r__law_times := ol_times (P := P) (w := w) (K := K) (mg := mg) (base := base) F.d__law_times F.B r__law_trim
  have r__law_shared := ol_shared (P := P) (w := w) (K := K) (mg := mg) (base := base) F.d__law_shared F.B
  have r__law_ratio := ol_ratio (P := P) (w := w) (K := K) (mg := mg) (base := base) F.d__law_ratio r__law_shared
  have r__law_poly := ol_poly (P := P) (w := w) (K := K) (mg := mg) (base := base) F.d__law_poly F.B r__law_taken r__law_trim
  have r__law_some := ol_some (P := P) (w := w) (K := K) (mg := mg) (base := base) F.d__law_some r__law_taken r__law_poly
  have r__law_linear := ol_linear (P := P) (w := w) (K := K) (mg := mg) (base := base) F.d__law_linear r__law_taken r__law_pick r__law_ratio
  have r__law_draw := ol_draw (P := P) (w := w) (K := K) (mg := mg) (base := base) F.d__law_draw r__law_taken r__law_poly r__law_some r__law_linear r__law_times
  have r__law_worth := ol_worth (P := P) (w := w) (K := K) (mg := mg) (base := base) F.d__law_worth r__law_taken r__law_ratio
  have r__law_chain := ol_chain (P := P) (w := w) (K := K) (mg := mg) (base := base) F.d__law_chain F.B r__law_taken r__law_draw r_function r_multiply r_subtract
  have r_law := ol_law (P := P) (w := w) (K := K) (mg := mg) (base := base) F.d_law F.B r__law_chain r__law_taken r__law_pick r__law_worth r_ladder_chain r_function r_add r_subtract r_multiply r_impedances_of r_admittances_of r_hybrids_of r_from_impedances r_from_admittances
  exact r_law
end
end CN
end
open PySem PySem.W PyProof.Rows
set_option maxHeartbeats 0 in
theorem PySem.Challenge.cw_coilnets_k68_whole_matrices_of_chains_holds : PySem.Challenge.rw_coilnets_k68_whole_matrices_of_chains.Holds := by
  w_on; o_law; k_head; (case hw => w_witness2)
  k_fill
  refine CN.walk_law (l := PySem.Challenge.rw_coilnets_k68_whole_matrices_of_chains) (n := 63) (k := 41) (x := "_law_script") rfl (by decide) rfl ⟨rfl, by decide, by decide⟩ (by decide +kernel) rfl (fun w h Y => PySem.W.kIn_of Y) ?F
  case F =>
    intro w mg h KX G base S
    refine CN.law_ok ?_ ⟨S, rfl⟩
    refine' CN.facts_mk ?B ?c0 ?c1 ?c2 ?c3 ?c4 ?c5 ?c6 ?c7 ?c8 ?c9 ?d_is_int ?d_is_in ?d_trimmed ?d_poly_plus ?d_scaled ?d_poly_minus ?d_poly_times ?d_content ?d_primitive ?d_remainder ?d_common ?d_quotient ?d_made ?d_is_poly ?d_need_poly ?d_small ?d_is_function ?d_need_function ?d_function ?d_times_of ?d_back_of ?d_over_of ?d_plus_of ?d_minus_of ?d_add ?d_subtract ?d_multiply ?d_measure ?d_need_chain ?d_all_small ?d_negative ?d_impedances ?d_admittances ?d_hybrids ?d_shown ?d_impedances_of ?d_admittances_of ?d_hybrids_of ?d_need_four ?d_good_chain ?d_chain_of ?d_chain_by_impedances ?d_from_impedances ?d_chain_by_admittances ?d_from_admittances ?d_is_ratio ?d_constant_of ?d_impedance_of ?d_is_rung ?d_need_ladder ?d_rung_impedance ?d_series ?d_across ?d_product ?d_ladder_chain ?d__law_taken ?d__law_pick ?d__law_trim ?d__law_times ?d__law_shared ?d__law_ratio ?d__law_poly ?d__law_some ?d__law_linear ?d__law_draw ?d__law_worth ?d__law_chain ?d_law
    case B =>
      constructor
      · refine PySem.W.mg_none_of KX G ?_; k_is
      · refine PySem.W.mg_none_of KX G ?_; k_is
      · refine PySem.W.mg_none_of KX G ?_; k_is
      · refine PySem.W.mg_none_of KX G ?_; k_is
      · refine PySem.W.mg_none_of KX G ?_; k_is
      · refine PySem.W.mg_none_of KX G ?_; k_is
      · refine PySem.W.mg_none_of KX G ?_; k_is
      · refine PySem.W.mg_none_of KX G ?_; k_is
      · refine PySem.W.mg_none_of KX G ?_; k_is
      · refine PySem.W.mg_none_of KX G ?_; k_is
      · refine PySem.W.mg_none_of KX G ?_; k_is
      · refine PySem.W.mg_none_of KX G ?_; k_is
      · refine PySem.W.mg_none_of KX G ?_; k_is
      · refine PySem.W.mg_of KX G ?_; k_is
    case c0 =>
      refine' CN.kc_mk KX G ?a ?l1 ?e1 ?l2 ?e2 ?l3 ?e3
      (case a => k_is); (case l1 => k_is); (case e1 => rfl); (case l2 => k_is); (case e2 => rfl); (case l3 => k_is); (case e3 => rfl)
    case c1 =>
      refine' CN.ki_mk KX G ?a
      (case a => k_is)
    case c2 =>
      refine' CN.ki_mk KX G ?a
      (case a => k_is)
    case c3 =>
      refine' CN.kc_mk KX G ?a ?l1 ?e1 ?l2 ?e2 ?l3 ?e3
      (case a => k_is); (case l1 => k_is); (case e1 => rfl); (case l2 => k_is); (case e2 => rfl); (case l3 => k_is); (case e3 => rfl)
    case c4 =>
      refine' CN.kt_mk KX G ?a ?l1 ?e1
      (case a => k_is); (case l1 => k_is); (case e1 => rfl)
    case c5 =>
      refine' CN.kt_mk KX G ?a ?l1 ?e1
      (case a => k_is); (case l1 => k_is); (case e1 => rfl)
    case c6 =>
      refine' CN.ki_mk KX G ?a
      (case a => k_is)
    case c7 =>
      refine' CN.kc_mk KX G ?a ?l1 ?e1 ?l2 ?e2 ?l3 ?e3
      (case a => k_is); (case l1 => k_is); (case e1 => rfl); (case l2 => k_is); (case e2 => rfl); (case l3 => k_is); (case e3 => rfl)
    case c8 =>
      intro o z
      refine' CN.kn_mk KX G ?a ?l1 ?e1 ?o ?b o z
      (case a => k_is); (case l1 => k_is); (case e1 => rfl); (case o => k_is); (case b => k_is)
    case c9 =>
      refine' CN.ks_mk KX G ?a
      (case a => k_is)
    case d_is_int =>
      refine' CN.df_mk KX G CN.hb_is_int ?a ?l ?c ?k
      (case a => k_is); (case l => k_is); (case c => k_is); (case k => k_is)
    case d_is_in =>
      refine' CN.df_mk KX G CN.hb_is_in ?a ?l ?c ?k
      (case a => k_is); (case l => k_is); (case c => k_is); (case k => k_is)
    case d_trimmed =>
      refine' CN.df_mk KX G CN.hb_trimmed ?a ?l ?c ?k
      (case a => k_is); (case l => k_is); (case c => k_is); (case k => k_is)
    case d_poly_plus =>
      refine' CN.df_mk KX G CN.hb_poly_plus ?a ?l ?c ?k
      (case a => k_is); (case l => k_is); (case c => k_is); (case k => k_is)
    case d_scaled =>
      refine' CN.df_mk KX G CN.hb_scaled ?a ?l ?c ?k
      (case a => k_is); (case l => k_is); (case c => k_is); (case k => k_is)
    case d_poly_minus =>
      refine' CN.df_mk KX G CN.hb_poly_minus ?a ?l ?c ?k
      (case a => k_is); (case l => k_is); (case c => k_is); (case k => k_is)
    case d_poly_times =>
      refine' CN.df_mk KX G CN.hb_poly_times ?a ?l ?c ?k
      (case a => k_is); (case l => k_is); (case c => k_is); (case k => k_is)
    case d_content =>
      refine' CN.df_mk KX G CN.hb_content ?a ?l ?c ?k
      (case a => k_is); (case l => k_is); (case c => k_is); (case k => k_is)
    case d_primitive =>
      refine' CN.df_mk KX G CN.hb_primitive ?a ?l ?c ?k
      (case a => k_is); (case l => k_is); (case c => k_is); (case k => k_is)
    case d_remainder =>
      refine' CN.df_mk KX G CN.hb_remainder ?a ?l ?c ?k
      (case a => k_is); (case l => k_is); (case c => k_is); (case k => k_is)
    case d_common =>
      refine' CN.df_mk KX G CN.hb_common ?a ?l ?c ?k
      (case a => k_is); (case l => k_is); (case c => k_is); (case k => k_is)
    case d_quotient =>
      refine' CN.df_mk KX G CN.hb_quotient ?a ?l ?c ?k
      (case a => k_is); (case l => k_is); (case c => k_is); (case k => k_is)
    case d_made =>
      refine' CN.df_mk KX G CN.hb_made ?a ?l ?c ?k
      (case a => k_is); (case l => k_is); (case c => k_is); (case k => k_is)
    case d_is_poly =>
      refine' CN.df_mk KX G CN.hb_is_poly ?a ?l ?c ?k
      (case a => k_is); (case l => k_is); (case c => k_is); (case k => k_is)
    case d_need_poly =>
      refine' CN.df_mk KX G CN.hb_need_poly ?a ?l ?c ?k
      (case a => k_is); (case l => k_is); (case c => k_is); (case k => k_is)
    case d_small =>
      refine' CN.df_mk KX G CN.hb_small ?a ?l ?c ?k
      (case a => k_is); (case l => k_is); (case c => k_is); (case k => k_is)
    case d_is_function =>
      refine' CN.df_mk KX G CN.hb_is_function ?a ?l ?c ?k
      (case a => k_is); (case l => k_is); (case c => k_is); (case k => k_is)
    case d_need_function =>
      refine' CN.df_mk KX G CN.hb_need_function ?a ?l ?c ?k
      (case a => k_is); (case l => k_is); (case c => k_is); (case k => k_is)
    case d_function =>
      refine' CN.df_mk KX G CN.hb_function ?a ?l ?c ?k
      (case a => k_is); (case l => k_is); (case c => k_is); (case k => k_is)
    case d_times_of =>
      refine' CN.df_mk KX G CN.hb_times_of ?a ?l ?c ?k
      (case a => k_is); (case l => k_is); (case c => k_is); (case k => k_is)
    case d_back_of =>
      refine' CN.df_mk KX G CN.hb_back_of ?a ?l ?c ?k
      (case a => k_is); (case l => k_is); (case c => k_is); (case k => k_is)
    case d_over_of =>
      refine' CN.df_mk KX G CN.hb_over_of ?a ?l ?c ?k
      (case a => k_is); (case l => k_is); (case c => k_is); (case k => k_is)
    case d_plus_of =>
      refine' CN.df_mk KX G CN.hb_plus_of ?a ?l ?c ?k
      (case a => k_is); (case l => k_is); (case c => k_is); (case k => k_is)
    case d_minus_of =>
      refine' CN.df_mk KX G CN.hb_minus_of ?a ?l ?c ?k
      (case a => k_is); (case l => k_is); (case c => k_is); (case k => k_is)
    case d_add =>
      refine' CN.df_mk KX G CN.hb_add ?a ?l ?c ?k
      (case a => k_is); (case l => k_is); (case c => k_is); (case k => k_is)
    case d_subtract =>
      refine' CN.df_mk KX G CN.hb_subtract ?a ?l ?c ?k
      (case a => k_is); (case l => k_is); (case c => k_is); (case k => k_is)
    case d_multiply =>
      refine' CN.df_mk KX G CN.hb_multiply ?a ?l ?c ?k
      (case a => k_is); (case l => k_is); (case c => k_is); (case k => k_is)
    case d_measure =>
      refine' CN.df_mk KX G CN.hb_measure ?a ?l ?c ?k
      (case a => k_is); (case l => k_is); (case c => k_is); (case k => k_is)
    case d_need_chain =>
      refine' CN.df_mk KX G CN.hb_need_chain ?a ?l ?c ?k
      (case a => k_is); (case l => k_is); (case c => k_is); (case k => k_is)
    case d_all_small =>
      refine' CN.df_mk KX G CN.hb_all_small ?a ?l ?c ?k
      (case a => k_is); (case l => k_is); (case c => k_is); (case k => k_is)
    case d_negative =>
      refine' CN.df_mk KX G CN.hb_negative ?a ?l ?c ?k
      (case a => k_is); (case l => k_is); (case c => k_is); (case k => k_is)
    case d_impedances =>
      refine' CN.df_mk KX G CN.hb_impedances ?a ?l ?c ?k
      (case a => k_is); (case l => k_is); (case c => k_is); (case k => k_is)
    case d_admittances =>
      refine' CN.df_mk KX G CN.hb_admittances ?a ?l ?c ?k
      (case a => k_is); (case l => k_is); (case c => k_is); (case k => k_is)
    case d_hybrids =>
      refine' CN.df_mk KX G CN.hb_hybrids ?a ?l ?c ?k
      (case a => k_is); (case l => k_is); (case c => k_is); (case k => k_is)
    case d_shown =>
      refine' CN.df_mk KX G CN.hb_shown ?a ?l ?c ?k
      (case a => k_is); (case l => k_is); (case c => k_is); (case k => k_is)
    case d_impedances_of =>
      refine' CN.df_mk KX G CN.hb_impedances_of ?a ?l ?c ?k
      (case a => k_is); (case l => k_is); (case c => k_is); (case k => k_is)
    case d_admittances_of =>
      refine' CN.df_mk KX G CN.hb_admittances_of ?a ?l ?c ?k
      (case a => k_is); (case l => k_is); (case c => k_is); (case k => k_is)
    case d_hybrids_of =>
      refine' CN.df_mk KX G CN.hb_hybrids_of ?a ?l ?c ?k
      (case a => k_is); (case l => k_is); (case c => k_is); (case k => k_is)
    case d_need_four =>
      refine' CN.df_mk KX G CN.hb_need_four ?a ?l ?c ?k
      (case a => k_is); (case l => k_is); (case c => k_is); (case k => k_is)
    case d_good_chain =>
      refine' CN.df_mk KX G CN.hb_good_chain ?a ?l ?c ?k
      (case a => k_is); (case l => k_is); (case c => k_is); (case k => k_is)
    case d_chain_of =>
      refine' CN.df_mk KX G CN.hb_chain_of ?a ?l ?c ?k
      (case a => k_is); (case l => k_is); (case c => k_is); (case k => k_is)
    case d_chain_by_impedances =>
      refine' CN.df_mk KX G CN.hb_chain_by_impedances ?a ?l ?c ?k
      (case a => k_is); (case l => k_is); (case c => k_is); (case k => k_is)
    case d_from_impedances =>
      refine' CN.df_mk KX G CN.hb_from_impedances ?a ?l ?c ?k
      (case a => k_is); (case l => k_is); (case c => k_is); (case k => k_is)
    case d_chain_by_admittances =>
      refine' CN.df_mk KX G CN.hb_chain_by_admittances ?a ?l ?c ?k
      (case a => k_is); (case l => k_is); (case c => k_is); (case k => k_is)
    case d_from_admittances =>
      refine' CN.df_mk KX G CN.hb_from_admittances ?a ?l ?c ?k
      (case a => k_is); (case l => k_is); (case c => k_is); (case k => k_is)
    case d_is_ratio =>
      refine' CN.df_mk KX G CN.hb_is_ratio ?a ?l ?c ?k
      (case a => k_is); (case l => k_is); (case c => k_is); (case k => k_is)
    case d_constant_of =>
      refine' CN.df_mk KX G CN.hb_constant_of ?a ?l ?c ?k
      (case a => k_is); (case l => k_is); (case c => k_is); (case k => k_is)
    case d_impedance_of =>
      refine' CN.df_mk KX G CN.hb_impedance_of ?a ?l ?c ?k
      (case a => k_is); (case l => k_is); (case c => k_is); (case k => k_is)
    case d_is_rung =>
      refine' CN.df_mk KX G CN.hb_is_rung ?a ?l ?c ?k
      (case a => k_is); (case l => k_is); (case c => k_is); (case k => k_is)
    case d_need_ladder =>
      refine' CN.df_mk KX G CN.hb_need_ladder ?a ?l ?c ?k
      (case a => k_is); (case l => k_is); (case c => k_is); (case k => k_is)
    case d_rung_impedance =>
      refine' CN.df_mk KX G CN.hb_rung_impedance ?a ?l ?c ?k
      (case a => k_is); (case l => k_is); (case c => k_is); (case k => k_is)
    case d_series =>
      refine' CN.df_mk KX G CN.hb_series ?a ?l ?c ?k
      (case a => k_is); (case l => k_is); (case c => k_is); (case k => k_is)
    case d_across =>
      refine' CN.df_mk KX G CN.hb_across ?a ?l ?c ?k
      (case a => k_is); (case l => k_is); (case c => k_is); (case k => k_is)
    case d_product =>
      refine' CN.df_mk KX G CN.hb_product ?a ?l ?c ?k
      (case a => k_is); (case l => k_is); (case c => k_is); (case k => k_is)
    case d_ladder_chain =>
      refine' CN.df_mk KX G CN.hb_ladder_chain ?a ?l ?c ?k
      (case a => k_is); (case l => k_is); (case c => k_is); (case k => k_is)
    case d__law_taken =>
      refine' CN.df_mk KX G CN.hb__law_taken ?a ?l ?c ?k
      (case a => k_is); (case l => k_is); (case c => k_is); (case k => k_is)
    case d__law_pick =>
      refine' CN.df_mk KX G CN.hb__law_pick ?a ?l ?c ?k
      (case a => k_is); (case l => k_is); (case c => k_is); (case k => k_is)
    case d__law_trim =>
      refine' CN.df_mk KX G CN.hb__law_trim ?a ?l ?c ?k
      (case a => k_is); (case l => k_is); (case c => k_is); (case k => k_is)
    case d__law_times =>
      refine' CN.df_mk KX G CN.hb__law_times ?a ?l ?c ?k
      (case a => k_is); (case l => k_is); (case c => k_is); (case k => k_is)
    case d__law_shared =>
      refine' CN.df_mk KX G CN.hb__law_shared ?a ?l ?c ?k
      (case a => k_is); (case l => k_is); (case c => k_is); (case k => k_is)
    case d__law_ratio =>
      refine' CN.df_mk KX G CN.hb__law_ratio ?a ?l ?c ?k
      (case a => k_is); (case l => k_is); (case c => k_is); (case k => k_is)
    case d__law_poly =>
      refine' CN.df_mk KX G CN.hb__law_poly ?a ?l ?c ?k
      (case a => k_is); (case l => k_is); (case c => k_is); (case k => k_is)
    case d__law_some =>
      refine' CN.df_mk KX G CN.hb__law_some ?a ?l ?c ?k
      (case a => k_is); (case l => k_is); (case c => k_is); (case k => k_is)
    case d__law_linear =>
      refine' CN.df_mk KX G CN.hb__law_linear ?a ?l ?c ?k
      (case a => k_is); (case l => k_is); (case c => k_is); (case k => k_is)
    case d__law_draw =>
      refine' CN.df_mk KX G CN.hb__law_draw ?a ?l ?c ?k
      (case a => k_is); (case l => k_is); (case c => k_is); (case k => k_is)
    case d__law_worth =>
      refine' CN.df_mk KX G CN.hb__law_worth ?a ?l ?c ?k
      (case a => k_is); (case l => k_is); (case c => k_is); (case k => k_is)
    case d__law_chain =>
      refine' CN.df_mk KX G CN.hb__law_chain ?a ?l ?c ?k
      (case a => k_is); (case l => k_is); (case c => k_is); (case k => k_is)
    case d_law =>
      refine' CN.df_mk KX G CN.hb_law ?a ?l ?c ?k
      (case a => k_is); (case l => k_is); (case c => k_is); (case k => k_is)
