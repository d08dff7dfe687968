import PyProof.Rows.All
import Wide.All
import OpenK.AllK
import Wide.FinOn
import KE.GoesNew
import HandS.ForMost
import HandS.Walk
import HandS.Zip
import KE.DatumOrd
import KE.KDictPairs
import HandS.Deep
import HandS.TupSets
import KE.KDictZip
import KE.KItemsList
import HandS.TupAny
import HandS.More
import HandS.Style
import HandS.IsInst
import PySem.Challenge.RW_lampsaloft_k27_whole_many_carriers
set_option Elab.async false
set_option linter.all false
set_option maxRecDepth 100000
set_option maxHeartbeats 4000000
namespace Lo
/-! ### sums and arrays given by functions -/
def sm : Nat → (Nat → Int) → Int
  | 0, _ => 0
  | n + 1, f => sm n f + f n
theorem sm_congr {n : Nat} {f g : Nat → Int} (h : ∀ i, i < n → f i = g i) : sm n f = sm n g := by
  induction n with
  | zero => rfl
  | succ n ih => simp only [sm]; rw [ih fun i hi => h i (by omega), h n (by omega)]
theorem sm_add (n : Nat) (f g : Nat → Int) : sm n (fun i => f i + g i) = sm n f + sm n g := by
  induction n with
  | zero => rfl
  | succ n ih => simp only [sm]; rw [ih]; omega
theorem sm_sub (n : Nat) (f g : Nat → Int) : sm n (fun i => f i - g i) = sm n f - sm n g := by
  induction n with
  | zero => rfl
  | succ n ih => simp only [sm]; rw [ih]; omega
theorem sm_le {n : Nat} {f g : Nat → Int} (h : ∀ i, i < n → f i ≤ g i) : sm n f ≤ sm n g := by
  induction n with
  | zero => exact Int.le_refl _
  | succ n ih => simp only [sm]; have a := ih fun i hi => h i (by omega); have b := h n (by omega); omega
theorem sm_zero (n : Nat) : sm n (fun _ => 0) = 0 := by
  induction n with
  | zero => rfl
  | succ n ih => simp only [sm]; rw [ih]; rfl
theorem sm_single {n a : Nat} (x : Int) (h : a < n) : sm n (fun c => if c = a then x else 0) = x := by
  induction n with
  | zero => omega
  | succ n ih =>
    simp only [sm]
    by_cases e : a = n
    · subst e
      rw [if_pos rfl, sm_congr (g := fun _ => 0) fun i hi => if_neg (by omega), sm_zero]
      omega
    · rw [ih (by omega), if_neg (by omega)]
      omega
theorem sm_nonneg {n : Nat} {f : Nat → Int} (h : ∀ i, i < n → 0 ≤ f i) : 0 ≤ sm n f := by
  have a := sm_le (n := n) (f := fun _ => 0) (g := f) h
  rw [sm_zero] at a
  exact a
/-- one term changed -/
theorem sm_set {n a : Nat} {f g : Nat → Int} (h : a < n) (he : ∀ i, i < n → i ≠ a → g i = f i) : sm n g = sm n f + (g a - f a) := by
  have e : sm n g = sm n (fun i => f i + (if i = a then g a - f a else 0)) := sm_congr fun i hi => by
    by_cases q : i = a
    · subst q; rw [if_pos rfl]; omega
    · rw [if_neg q, he i hi q]; omega
  rw [e, sm_add, sm_single _ h]

/-- the list f 0, .., f (n - 1) -/
def arr {α : Type} (n : Nat) (f : Nat → α) : List α := (List.range n).map f
section
variable {α β : Type}
theorem arr_length (n : Nat) (f : Nat → α) : (arr n f).length = n := by simp [arr]
theorem arr_get {n i : Nat} {f : Nat → α} (h : i < n) : (arr n f)[i]? = some (f i) := by simp [arr, h]
theorem arr_get_none {n i : Nat} {f : Nat → α} (h : n ≤ i) : (arr n f)[i]? = none := by simp [arr, h]
theorem arr_zero (f : Nat → α) : arr 0 f = [] := rfl
theorem arr_succ (n : Nat) (f : Nat → α) : arr (n + 1) f = arr n f ++ [f n] := by simp [arr, List.range_succ]
theorem ext_get {xs ys : List α} (hl : xs.length = ys.length) (h : ∀ i, i < xs.length → xs[i]? = ys[i]?) : xs = ys := by
  apply List.ext_getElem? 
  intro i
  by_cases q : i < xs.length
  · exact h i q
  · rw [List.getElem?_eq_none (by omega), List.getElem?_eq_none (by omega)]
theorem arr_ext {n : Nat} {f g : Nat → α} (h : ∀ i, i < n → f i = g i) : arr n f = arr n g := by
  apply ext_get
  · simp [arr_length]
  · intro i hi
    rw [arr_length] at hi
    rw [arr_get hi, arr_get hi, h i hi]
theorem arr_set {n i : Nat} {f : Nat → α} {x : α} : (arr n f).set i x = arr n (fun j => if j = i then x else f j) := by
  apply ext_get
  · simp [arr_length]
  · intro j hj
    rw [List.length_set, arr_length] at hj
    rw [arr_get hj, List.getElem?_set]
    by_cases e : i = j
    · subst e; simp [arr_length, hj]
    · rw [if_neg e, if_neg (fun q => e q.symm), arr_get hj]
theorem arr_map {n : Nat} {f : Nat → α} {g : α → β} : (arr n f).map g = arr n (fun i => g (f i)) := by simp [arr]
theorem arr_rep (n : Nat) (x : α) : List.replicate n x = arr n (fun _ => x) := by
  apply ext_get
  · simp [arr_length]
  · intro i hi
    rw [List.length_replicate] at hi
    rw [arr_get hi]; simp [hi]
theorem arr_take {n m : Nat} {f : Nat → α} (h : m ≤ n) : (arr n f).take m = arr m f := by
  apply ext_get
  · simp [arr_length]; omega
  · intro i hi
    have hi' : i < m := by simp [arr_length] at hi; omega
    rw [List.getElem?_take, if_pos hi', arr_get (by omega), arr_get hi']
theorem arr_drop {n m : Nat} {f : Nat → α} : (arr n f).drop m = arr (n - m) (fun i => f (m + i)) := by
  apply ext_get
  · simp [arr_length]
  · intro i hi
    have hi' : i < n - m := by simpa [arr_length] using hi
    rw [List.getElem?_drop, arr_get (by omega), arr_get hi']
theorem arr_append {n m : Nat} {f g : Nat → α} : arr n f ++ arr m g = arr (n + m) (fun i => if i < n then f i else g (i - n)) := by
  apply ext_get
  · simp [arr_length]
  · intro i hi
    have hi' : i < n + m := by simpa [arr_length] using hi
    rw [arr_get hi']
    by_cases q : i < n
    · rw [List.getElem?_append_left (by rw [arr_length]; exact q), arr_get q, if_pos q]
    · rw [List.getElem?_append_right (by rw [arr_length]; omega), arr_length, arr_get (by omega), if_neg q]
theorem arr_of (xs : List α) (d : α) : xs = arr xs.length (fun i => xs.getD i d) := by
  apply ext_get
  · simp [arr_length]
  · intro i hi
    rw [arr_get hi]; simp [hi]
end
theorem sum_arr (n : Nat) (f : Nat → Int) : (arr n f).sum = sm n f := by
  induction n with
  | zero => rfl
  | succ n ih => rw [arr_succ, List.sum_append, ih]; simp [sm]

/-! ### the pigeonhole -/
theorem pigeon : ∀ (n : Nat) (f : Nat → Nat), (∀ i, i < n + 1 → f i < n) → ∃ i j, i < j ∧ j < n + 1 ∧ f i = f j
  | 0, f, h => absurd (h 0 (by omega)) (by omega)
  | n + 1, f, h => by
    by_cases q : ∃ i, i < n + 1 ∧ f i = f (n + 1)
    · obtain ⟨i, hi, e⟩ := q
      exact ⟨i, n + 1, hi, by omega, e⟩
    · have ne : ∀ i, i < n + 1 → f i ≠ f (n + 1) := fun i hi e => q ⟨i, hi, e⟩
      have hl := h (n + 1) (by omega)
      obtain ⟨i, j, h1, h2, e⟩ := pigeon n (fun i => if f i = n then f (n + 1) else f i) fun i hi => by
        have a := h i (by omega)
        have b := ne i hi
        show (if f i = n then f (n + 1) else f i) < n
        split <;> omega
      refine ⟨i, j, h1, by omega, ?_⟩
      have e' : (if f i = n then f (n + 1) else f i) = (if f j = n then f (n + 1) else f j) := e
      have b1 := ne i (by omega)
      have b2 := ne j h2
      split at e' <;> split at e' <;> omega
theorem inj_le {a b : Nat} {f : Nat → Nat} (h : ∀ i, i < a → f i < b) (inj : ∀ i j, i < a → j < a → f i = f j → i = j) : a ≤ b := by
  by_cases q : a ≤ b
  · exact q
  · obtain ⟨i, j, h1, h2, e⟩ := pigeon b f fun i hi => h i (by omega)
    have := inj i j (by omega) (by omega) e
    omega

/-! ### choices and papers -/
/-- n froms, N columns, the first g of them goals: t i is the column of the from i -/
structure Choice (n N g : Nat) (t : Nat → Nat) : Prop where
  lt : ∀ i, i < n → t i < N
  inj : ∀ i j, i < n → j < n → t i = t j → i = j
  cov : ∀ c, c < g → ∃ i, i < n ∧ t i = c
def hit : Nat → (Nat → Nat) → Nat → Bool
  | 0, _, _ => false
  | n + 1, t, c => hit n t c || decide (t n = c)
theorem hit_iff {t : Nat → Nat} {c : Nat} : ∀ {n : Nat}, hit n t c = true ↔ ∃ i, i < n ∧ t i = c
  | 0 => by simp [hit]
  | n + 1 => by
    simp only [hit, Bool.or_eq_true, decide_eq_true_eq, hit_iff (n := n)]
    constructor
    · rintro (⟨i, h, e⟩ | e)
      · exact ⟨i, by omega, e⟩
      · exact ⟨n, by omega, e⟩
    · rintro ⟨i, h, e⟩
      by_cases q : i = n
      · subst q; exact .inr e
      · exact .inl ⟨i, by omega, e⟩
theorem hit_false {t : Nat → Nat} {c n : Nat} : hit n t c = false ↔ ∀ i, i < n → t i ≠ c := by
  constructor
  · intro h i hi e
    rw [hit_iff.mpr ⟨i, hi, e⟩] at h
    cases h
  · intro h
    cases q : hit n t c with
    | false => rfl
    | true => obtain ⟨i, hi, e⟩ := hit_iff.mp q; exact absurd e (h i hi)
theorem sm_over {N : Nat} {t : Nat → Nat} {v : Nat → Int} : ∀ {n : Nat}, (∀ i, i < n → t i < N) → (∀ i j, i < n → j < n → t i = t j → i = j) →
    sm n (fun i => v (t i)) = sm N (fun c => if hit n t c = true then v c else 0)
  | 0, _, _ => by
    have e : sm N (fun c => if hit 0 t c = true then v c else 0) = sm N (fun _ => 0) := sm_congr fun i _ => if_neg (by simp [hit])
    rw [e, sm_zero]
    rfl
  | n + 1, hl, hi => by
    simp only [sm]
    rw [sm_over (n := n) (fun i h => hl i (by omega)) fun i j h1 h2 => hi i j (by omega) (by omega), ← sm_single (v (t n)) (hl n (by omega)), ← sm_add]
    refine sm_congr fun c _ => ?_
    by_cases e : c = t n
    · have no : hit n t c = false := hit_false.mpr fun i h q => by
        have := hi i n (by omega) (by omega) (by rw [q, e])
        omega
      simp [hit, no, e]
      rw [← e, no]; simp
    · have e2 : ¬ t n = c := fun q => e q.symm
      simp [hit, e, e2]
/-- the price -/
def price (n : Nat) (sq : Nat → Nat → Int) (t : Nat → Nat) : Int := sm n fun i => sq i (t i)
structure Paper (n N g : Nat) (sq : Nat → Nat → Int) (u v : Nat → Int) : Prop where
  le : ∀ i c, i < n → c < N → u i + v c ≤ sq i c
  np : ∀ c, g ≤ c → c < N → v c ≤ 0
/-- it fits the choice -/
structure Fits (n N g : Nat) (sq : Nat → Nat → Int) (u v : Nat → Int) (t : Nat → Nat) : Prop extends Paper n N g sq u v where
  eq : ∀ i, i < n → u i + v (t i) = sq i (t i)
  zero : ∀ c, g ≤ c → c < N → (∀ i, i < n → t i ≠ c) → v c = 0
section
variable {n N g : Nat} {sq : Nat → Nat → Int} {u v : Nat → Int} {t t' : Nat → Nat}
theorem Paper.lower (p : Paper n N g sq u v) (c : Choice n N g t) : sm n u + sm N v ≤ price n sq t := by
  have a : sm n (fun i => u i + v (t i)) ≤ price n sq t := sm_le fun i hi => p.le i (t i) hi (c.lt i hi)
  rw [sm_add, sm_over c.lt c.inj] at a
  have b : sm N v ≤ sm N (fun x => if hit n t x = true then v x else 0) := sm_le fun x hx => by
    by_cases q : hit n t x = true
    · rw [if_pos q]; exact Int.le_refl _
    · rw [if_neg q]
      have hg : g ≤ x := by
        by_cases z : x < g
        · exact absurd (hit_iff.mpr (c.cov x z)) q
        · omega
      exact p.np x hg hx
  omega
theorem Fits.tight (p : Fits n N g sq u v t) (c : Choice n N g t) : price n sq t = sm n u + sm N v := by
  have a : price n sq t = sm n (fun i => u i + v (t i)) := sm_congr fun i hi => (p.eq i hi).symm
  rw [a, sm_add, sm_over c.lt c.inj]
  have b : sm N v = sm N (fun x => if hit n t x = true then v x else 0) := sm_congr fun x hx => by
    by_cases q : hit n t x = true
    · rw [if_pos q]
    · rw [if_neg q]
      have hg : g ≤ x := by
        by_cases z : x < g
        · exact absurd (hit_iff.mpr (c.cov x z)) q
        · omega
      have q' : hit n t x = false := by simpa using q
      exact p.zero x hg hx (hit_false.mp q')
  omega
/-- who fits a paper has the least price -/
theorem Fits.least (p : Fits n N g sq u v t) (c : Choice n N g t) (c' : Choice n N g t') : price n sq t ≤ price n sq t' := by
  rw [p.tight c]
  exact p.toPaper.lower c'
/-- least legs are crossless -/
theorem Fits.cross (p : Fits n N g sq u v t) (c : Choice n N g t) {i j : Nat} (hi : i < n) (hj : j < n) : sq i (t i) + sq j (t j) ≤ sq i (t j) + sq j (t i) := by
  have a := p.eq i hi
  have b := p.eq j hj
  have a' := p.le i (t j) hi (c.lt j hj)
  have b' := p.le j (t i) hj (c.lt i hi)
  omega
end
end Lo

namespace Lo
/-! ### the search for a least matching: row by row -/
/-- the rows below R stand in the columns up to N but h, each once -/
structure Mt (n N R : Nat) (p : Nat → Nat) (h : Nat) : Prop where
  rn : ∀ k, k ≤ N → k ≠ h → p k = n ∨ p k < R
  inj : ∀ k l, k ≤ N → l ≤ N → k ≠ h → l ≠ h → p k = p l → p k ≠ n → k = l
  cov : ∀ i, i < R → ∃ k, k ≤ N ∧ k ≠ h ∧ p k = i
structure Du (n N R : Nat) (C : Nat → Nat → Int) (u v : Nat → Int) (p : Nat → Nat) : Prop where
  feas : ∀ i j, i < R → j < N → u i + v j ≤ C i j
  tight : ∀ j, j < N → p j ≠ n → u (p j) + v j = C (p j) j
  neg : ∀ j, j < N → v j ≤ 0
  zero : ∀ j, j < N → p j = n → v j = 0
/-- behind the first step of a row -/
structure Sb (n N r : Nat) (C : Nat → Nat → Int) (u v : Nat → Int) (p : Nat → Nat) (l : Nat → Option Int) (w : Nat → Nat) (d : Nat → Bool) (j0 : Nat) (rho : Nat → Nat) (m : Nat) : Prop where
  dN : d N = true
  jN : j0 < N
  feas : ∀ j, j < N → u r + v j ≤ C r j
  dn : ∀ k, k < N → d k = true → p k ≠ n
  rk : ∀ k, k ≤ N → d k = true → rho k < m
  ch : ∀ k, k < N → d k = true → d (w k) = true ∧ w k ≤ N ∧ rho (w k) < rho k ∧ u (p (w k)) + v k = C (p (w k)) k
  op : ∀ k, k < N → d k = false → ∃ x, l k = some x ∧ 0 ≤ x ∧ d (w k) = true ∧ w k ≤ N ∧ x = C (p (w k)) k - u (p (w k)) - v k ∧ ∀ o, o ≤ N → d o = true → x ≤ C (p o) k - u (p o) - v k
  lj : l j0 = some 0
structure Se (n N r : Nat) (C : Nat → Nat → Int) (u v : Nat → Int) (p : Nat → Nat) (l : Nat → Option Int) (w : Nat → Nat) (d : Nat → Bool) (j0 : Nat) (rho : Nat → Nat) (m : Nat) : Prop where
  pN : p N = r
  jd : d j0 = false
  mt : Mt n N (r + 1) p (N + 1)
  du : Du n N r C u v p
  alt : (j0 = N ∧ m = 0 ∧ (∀ k, k ≤ N → d k = false) ∧ ∀ k, l k = none) ∨ Sb n N r C u v p l w d j0 rho m
/-- what one step does -/
structure StepR (N : Nat) (C : Nat → Nat → Int) (u v : Nat → Int) (p : Nat → Nat) (l : Nat → Option Int) (w : Nat → Nat) (d : Nat → Bool) (j0 : Nat)
    (u' v' : Nat → Int) (l' : Nat → Option Int) (w' : Nat → Nat) (d' : Nat → Bool) (best : Nat) (st : Int) (l1 : Nat → Option Int) : Prop where
  dd : ∀ k, d' k = if k = j0 then true else d k
  bN : best < N
  bd : d' best = false
  rel : ∀ o, o < N → d' o = false → ∃ x, l1 o = some x ∧ x ≤ C (p j0) o - u (p j0) - v o ∧ (∀ y, l o = some y → x ≤ y) ∧ ((x = C (p j0) o - u (p j0) - v o ∧ w' o = j0) ∨ (l o = some x ∧ w' o = w o))
  wk : ∀ o, o < N → d' o = true → w' o = w o
  bs : l1 best = some st
  mn : ∀ o x, o < N → d' o = false → l1 o = some x → st ≤ x
  ui : ∀ o, o ≤ N → d' o = true → u' (p o) = u (p o) + st
  uo : ∀ i, (∀ o, o ≤ N → d' o = true → p o ≠ i) → u' i = u i
  vi : ∀ o, o ≤ N → d' o = true → v' o = v o - st
  vo : ∀ o, o ≤ N → d' o = false → v' o = v o
  lo : ∀ o, o < N → d' o = false → ∀ x, l1 o = some x → l' o = some (x - st)
section
variable {n N r : Nat} {C : Nat → Nat → Int} {u v u' v' : Nat → Int} {p : Nat → Nat} {l l' l1 : Nat → Option Int} {w w' : Nat → Nat} {d d' : Nat → Bool} {j0 best : Nat} {st : Int} {rho : Nat → Nat} {m : Nat}
/-- the done columns and the one at hand hold rows -/
theorem Se.done (S : Se n N r C u v p l w d j0 rho m) (hr : r < n) (hp : p j0 ≠ n) {o : Nat} (ho : o ≤ N) (hd : o = j0 ∨ d o = true) : p o ≠ n := by
  rcases hd with e | e
  · rw [e]; exact hp
  · rcases S.alt with ⟨_, _, h, _⟩ | B
    · rw [h o ho] at e; cases e
    · by_cases q : o = N
      · rw [q, S.pN]; omega
      · exact B.dn o (by omega) e
theorem Se.open_ (S : Se n N r C u v p l w d j0 rho m) (hr : r < n) (hn : n ≤ N) (hp : p j0 ≠ n) : ∃ o, o < N ∧ o ≠ j0 ∧ d o = false := by
  by_cases q : ∃ o, o < N ∧ o ≠ j0 ∧ d o = false
  · exact q
  · have all : ∀ o, o < N → o = j0 ∨ d o = true := fun o ho => by
      by_cases e : o = j0
      · exact .inl e
      · cases f : d o with
        | true => exact .inr rfl
        | false => exact absurd ⟨o, ho, e, f⟩ q
    have lt : ∀ o, o < N → p o < r := fun o ho => by
      have a := S.done hr hp (by omega) (all o ho)
      rcases S.mt.rn o (by omega) (by omega) with b | b
      · exact absurd b a
      · by_cases e : p o = r
        · have := S.mt.inj o N (by omega) (by omega) (by omega) (by omega) (by rw [e, S.pN]) a
          omega
        · omega
    have := inj_le lt fun i j hi hj e => S.mt.inj i j (by omega) (by omega) (by omega) (by omega) e (S.done hr hp (by omega) (all i hi))
    omega
theorem Se.step (S : Se n N r C u v p l w d j0 rho m) (hr : r < n) (hp : p j0 ≠ n) (R : StepR N C u v p l w d j0 u' v' l' w' d' best st l1) :
    Se n N r C u' v' p l' w' d' best (fun k => if k = j0 then m else rho k) (m + 1) := by
  have hj0 : j0 ≤ N := by
    rcases S.alt with ⟨e, _⟩ | B
    · omega
    · exact Nat.le_of_lt B.jN
  have dj0 : d' j0 = true := by rw [R.dd, if_pos rfl]
  have up : ∀ k, d k = true → d' k = true := fun k e => by rw [R.dd]; split <;> first | rfl | exact e
  have dn : ∀ k, d' k = false → d k = false ∧ k ≠ j0 := fun k e => by
    rw [R.dd] at e
    split at e
    · cases e
    · exact ⟨e, by assumption⟩
  have dor : ∀ k, d' k = true → k = j0 ∨ d k = true := fun k e => by
    rw [R.dd] at e
    split at e
    · exact .inl (by assumption)
    · exact .inr e
  have pd : ∀ o, o ≤ N → d' o = true → p o ≠ n := fun o ho e => S.done hr hp ho (dor o e)
  have inT : ∀ j, j ≤ N → p j ≠ n → d' j = false → u' (p j) = u (p j) := fun j hj hpj e => R.uo _ fun o ho hd q => by
    have := S.mt.inj o j ho hj (by omega) (by omega) q (pd o ho hd)
    rw [this, e] at hd
    cases hd
  have prow : ∀ j, j < N → p j ≠ n → p j < r := fun j hj hpj => by
    rcases S.mt.rn j (by omega) (by omega) with b | b
    · exact absurd b hpj
    · by_cases e : p j = r
      · have := S.mt.inj j N (by omega) (by omega) (by omega) (by omega) (by rw [e, S.pN]) hpj
        omega
      · omega
  -- every open column is at most so far from every row of the tree
  have near : ∀ k, k < N → d' k = false → ∃ x, l1 k = some x ∧ st ≤ x ∧ ∀ o, o ≤ N → d' o = true → x ≤ C (p o) k - u (p o) - v k := fun k hk e => by
    obtain ⟨x, h1, h2, h3, h4⟩ := R.rel k hk e
    refine ⟨x, h1, R.mn k x hk e h1, fun o ho hd => ?_⟩
    rcases dor o hd with q | q
    · rw [q]; exact h2
    · rcases S.alt with ⟨_, _, h, _⟩ | B
      · rw [h o ho] at q; cases q
      · obtain ⟨y, y1, _, _, _, _, y2⟩ := B.op k hk (dn k e).1
        have a := h3 y y1
        have b := y2 o ho q
        omega
  have rfeas : ∀ j, j < N → d' j = true → u r + v j ≤ C r j := fun j hj e => by
    rcases S.alt with ⟨z, _, h, _⟩ | B
    · rcases dor j e with q | q
      · omega
      · rw [h j (by omega)] at q; cases q
    · exact B.feas j hj
  have stp : (∃ j, j < N ∧ d' j = true) → 0 ≤ st := fun ⟨j, hj, e⟩ => by
    rcases S.alt with ⟨z, _, h, _⟩ | B
    · rcases dor j e with q | q
      · omega
      · rw [h j (by omega)] at q; cases q
    · obtain ⟨x, h1, h2, h3, h4⟩ := R.rel best R.bN R.bd
      have ex : x = st := Option.some.inj (h1.symm.trans R.bs)
      rcases h4 with ⟨q, _⟩ | ⟨q, _⟩
      · have := S.du.feas (p j0) best (prow j0 B.jN hp) R.bN
        omega
      · obtain ⟨y, y1, y2, _⟩ := B.op best R.bN (dn best R.bd).1
        have : x = y := Option.some.inj (q.symm.trans y1)
        omega
  -- feasible for every row up to r
  have feas : ∀ i j, i ≤ r → j < N → (i < r ∨ d' j = false → True) → (i = r → d' N = true) → (i < r → u i + v j ≤ C i j) → u' i + v' j ≤ C i j := fun i j hi hj _ hN hf => by
    by_cases ht : ∃ o, o ≤ N ∧ d' o = true ∧ p o = i
    · obtain ⟨o, ho, hd, e⟩ := ht
      have a := R.ui o ho hd
      rw [e] at a
      cases f : d' j with
      | true =>
        have b := R.vi j (by omega) f
        by_cases z : i = r
        · have := rfeas j hj f
          rw [← z] at this
          omega
        · have := hf (by omega)
          omega
      | false =>
        have b := R.vo j (by omega) f
        obtain ⟨x, _, x2, x3⟩ := near j hj f
        have := x3 o ho hd
        rw [e] at this
        omega
    · have a := R.uo i fun o ho hd e => ht ⟨o, ho, hd, e⟩
      have hir : i < r := by
        by_cases z : i = r
        · exact absurd ⟨N, Nat.le_refl _, hN z, by rw [S.pN, z]⟩ ht
        · omega
      have := hf hir
      cases f : d' j with
      | true =>
        have b := R.vi j (by omega) f
        have := stp ⟨j, hj, f⟩
        omega
      | false =>
        have b := R.vo j (by omega) f
        omega
  have dN : d' N = true := by
    rcases S.alt with ⟨z, _⟩ | B
    · rw [← z]; exact dj0
    · exact up N B.dN
  refine ⟨S.pN, R.bd, S.mt, ⟨fun i j hi hj => feas i j (by omega) hj (fun _ => trivial) (fun _ => dN) (fun h => S.du.feas i j h hj), fun j hj hpj => ?_, fun j hj => ?_, fun j hj hpj => ?_⟩, .inr ⟨dN, R.bN, fun j hj => ?_, fun k hk e => pd k (by omega) e, fun k hk e => ?_, fun k hk e => ?_, fun k hk e => ?_, ?_⟩⟩
  · have a := S.du.tight j hj hpj
    cases f : d' j with
    | true =>
      have b := R.vi j (by omega) f
      have c := R.ui j (by omega) f
      omega
    | false =>
      have b := R.vo j (by omega) f
      have c := inT j (by omega) hpj f
      omega
  · have a := S.du.neg j hj
    cases f : d' j with
    | true =>
      have b := R.vi j (by omega) f
      have := stp ⟨j, hj, f⟩
      omega
    | false =>
      have b := R.vo j (by omega) f
      omega
  · have a := S.du.zero j hj hpj
    cases f : d' j with
    | true => exact absurd hpj (pd j (by omega) f)
    | false =>
      have b := R.vo j (by omega) f
      omega
  · exact feas r j (Nat.le_refl _) hj (fun _ => trivial) (fun _ => dN) (fun h => absurd h (by omega))
  · show (if k = j0 then m else rho k) < m + 1
    split
    · omega
    · rcases dor k e with q | q
      · contradiction
      · rcases S.alt with ⟨_, _, h, _⟩ | B
        · rw [h k hk] at q; cases q
        · have := B.rk k hk q
          omega
  · -- the chain of the done ones
    have hw := R.wk k hk e
    rw [hw]
    rcases S.alt with ⟨z, _, h, _⟩ | B
    · rcases dor k e with q | q
      · omega
      · rw [h k (by omega)] at q; cases q
    · have key : d (w k) = true ∧ w k ≤ N ∧ (if w k = j0 then m else rho (w k)) < (if k = j0 then m else rho k) ∧ u (p (w k)) + v k = C (p (w k)) k := by
        by_cases z : k = j0
        · subst z
          obtain ⟨x, x1, x2, x3, x4, x5, x6⟩ := B.op k hk S.jd
          have x0 : x = 0 := Option.some.inj (x1.symm.trans B.lj)
          have ne : w k ≠ k := fun q => by rw [q, S.jd] at x3; cases x3
          refine ⟨x3, x4, ?_, by omega⟩
          rw [if_neg ne, if_pos rfl]
          exact B.rk _ x4 x3
        · rcases dor k e with q | q
          · exact absurd q z
          · obtain ⟨x3, x4, x5, x6⟩ := B.ch k hk q
            have ne : w k ≠ j0 := fun q => by rw [q, S.jd] at x3; cases x3
            refine ⟨x3, x4, ?_, x6⟩
            rw [if_neg ne, if_neg z]
            exact x5
      obtain ⟨k1, k2, k3, k4⟩ := key
      refine ⟨up _ k1, k2, k3, ?_⟩
      have a := R.ui (w k) k2 (up _ k1)
      have b := R.vi k (by omega) e
      omega
  · -- the open ones
    obtain ⟨x, h1, h2, h3, h4⟩ := R.rel k hk e
    obtain ⟨x', n1, n2, n3⟩ := near k hk e
    have ex : x = x' := Option.some.inj (h1.symm.trans n1)
    subst ex
    have b := R.vo k (by omega) e
    refine ⟨x - st, R.lo k hk e x h1, by omega, ?_⟩
    have fin : ∀ o, o ≤ N → d' o = true → x - st ≤ C (p o) k - u' (p o) - v' k := fun o ho hd => by
      have a := R.ui o ho hd
      have := n3 o ho hd
      omega
    rcases h4 with ⟨q, z⟩ | ⟨q, z⟩
    · rw [z]
      refine ⟨dj0, hj0, ?_, fin⟩
      have a := R.ui j0 hj0 dj0
      omega
    · rw [z]
      rcases S.alt with ⟨_, _, _, h⟩ | B
      · rw [h k] at q; cases q
      · obtain ⟨y, y1, y2, y3, y4, y5, _⟩ := B.op k hk (dn k e).1
        have : x = y := Option.some.inj (q.symm.trans y1)
        refine ⟨up _ y3, y4, ?_, fin⟩
        have a := R.ui (w k) y4 (up _ y3)
        omega
  · have := R.lo best R.bN R.bd st R.bs
    rw [this]
    congr 1
    omega

/-! ### the path is turned -/
structure Au (n N r : Nat) (C : Nat → Nat → Int) (u v : Nat → Int) (p : Nat → Nat) (w : Nat → Nat) (d : Nat → Bool) (rho : Nat → Nat) (q : Nat → Nat) (j : Nat) : Prop where
  jN : j ≤ N
  mt : Mt n N (r + 1) q j
  tight : ∀ k, k < N → k ≠ j → q k ≠ n → u (q k) + v k = C (q k) k
  zero : ∀ k, k < N → k ≠ j → q k = n → p k = n
  same : ∀ k, k ≤ N → d k = true → rho k < rho j → q k = p k
  next : j ≠ N → d (w j) = true ∧ w j ≤ N ∧ rho (w j) < rho j ∧ u (p (w j)) + v j = C (p (w j)) j
/-- ranks, with the last column's -/
def rk (rho : Nat → Nat) (j0 m k : Nat) : Nat := if k = j0 then m else rho k
theorem Se.au (S : Se n N r C u v p l w d j0 rho m) (hr : r < n) (hp : p j0 = n) : Au n N r C u v p w d (rk rho j0 m) p j0 := by
  rcases S.alt with ⟨z, _⟩ | B
  · rw [z, S.pN] at hp; omega
  · refine ⟨Nat.le_of_lt B.jN, ⟨fun k hk _ => S.mt.rn k hk (by omega), fun k i hk hi _ _ => S.mt.inj k i hk hi (by omega) (by omega), fun i hi => ?_⟩, fun k hk _ => S.du.tight k hk, fun _ _ _ h => h, fun _ _ _ _ => rfl, fun _ => ?_⟩
    · obtain ⟨k, k1, k2, k3⟩ := S.mt.cov i hi
      exact ⟨k, k1, fun e => by rw [e, hp] at k3; omega, k3⟩
    · obtain ⟨x, x1, x2, x3, x4, x5, x6⟩ := B.op j0 B.jN S.jd
      have x0 : x = 0 := Option.some.inj (x1.symm.trans B.lj)
      have ne : w j0 ≠ j0 := fun q => by rw [q, S.jd] at x3; cases x3
      refine ⟨x3, x4, ?_, by omega⟩
      unfold rk
      rw [if_neg ne, if_pos rfl]
      exact B.rk _ x4 x3
theorem Au.step (S : Se n N r C u v p l w d j0 rho m) (hr : r < n) (hp : p j0 = n) {q : Nat → Nat} {j : Nat} (A : Au n N r C u v p w d (rk rho j0 m) q j) (hj : j ≠ N) :
    Au n N r C u v p w d (rk rho j0 m) (fun k => if k = j then q (w j) else q k) (w j) ∧ rk rho j0 m (w j) < rk rho j0 m j ∧ w j ≤ N := by
  rcases S.alt with ⟨z, _⟩ | B
  · rw [z, S.pN] at hp; omega
  obtain ⟨a1, a2, a3, a4⟩ := A.next hj
  have hjN := A.jN
  have ne : w j ≠ j := fun e => by rw [e] at a3; omega
  have eq : q (w j) = p (w j) := A.same _ a2 a1 a3
  have pw : p (w j) ≠ n := by
    by_cases z : w j = N
    · rw [z, S.pN]; omega
    · exact B.dn _ (by omega) a1
  refine ⟨⟨a2, ⟨fun k hk hne => ?_, fun k i hk hi nk ni e en => ?_, fun i hi => ?_⟩, fun k hk nk en => ?_, fun k hk nk en => ?_, fun k hk dk lt => ?_, fun nN => ?_⟩, a3, a2⟩
  · show (if k = j then q (w j) else q k) = n ∨ (if k = j then q (w j) else q k) < r + 1
    split
    · exact A.mt.rn _ a2 ne
    · exact A.mt.rn k hk (by assumption)
  · try simp only [] at e en
    by_cases z1 : k = j <;> by_cases z2 : i = j
    · omega
    · rw [if_pos z1, if_neg z2] at e
      rw [if_pos z1] at en
      exact absurd (A.mt.inj (w j) i a2 hi ne z2 e en) (fun x => ni x.symm)
    · rw [if_neg z1, if_pos z2] at e
      rw [if_neg z1] at en
      exact absurd (A.mt.inj k (w j) hk a2 z1 ne e en) nk
    · rw [if_neg z1, if_neg z2] at e
      rw [if_neg z1] at en
      exact A.mt.inj k i hk hi z1 z2 e en
  · obtain ⟨k, k1, k2, k3⟩ := A.mt.cov i hi
    by_cases z : k = w j
    · refine ⟨j, hjN, fun e => ne e.symm, ?_⟩
      rw [z] at k3
      simp [k3]
    · exact ⟨k, k1, z, by simp [k2, k3]⟩
  · try simp only [] at en ⊢
    by_cases z : k = j
    · rw [if_pos z, eq, z]; exact a4
    · rw [if_neg z] at en ⊢
      exact A.tight k hk z en
  · try simp only [] at en
    by_cases z : k = j
    · rw [if_pos z, eq] at en; exact absurd en pw
    · rw [if_neg z] at en
      exact A.zero k hk z en
  · try simp only []
    by_cases z : k = j
    · exfalso
      rw [z] at lt
      omega
    · rw [if_neg z]
      exact A.same k hk dk (by omega)
  · obtain ⟨x3, x4, x5, x6⟩ := B.ch (w j) (by omega) a1
    have n1 : w j ≠ j0 := fun e => by rw [e, S.jd] at a1; cases a1
    have n2 : w (w j) ≠ j0 := fun e => by rw [e, S.jd] at x3; cases x3
    refine ⟨x3, x4, ?_, x6⟩
    unfold rk
    rw [if_neg n1, if_neg n2]
    exact x5
/-- between two rows -/
structure Ou (n N R : Nat) (C : Nat → Nat → Int) (u v : Nat → Int) (p : Nat → Nat) : Prop where
  mt : Mt n N R p N
  du : Du n N R C u v p
theorem Au.done (S : Se n N r C u v p l w d j0 rho m) (hr : r < n) (hp : p j0 = n) {q : Nat → Nat} (A : Au n N r C u v p w d (rk rho j0 m) q N) (x : Nat) :
    Ou n N (r + 1) C u v (fun k => if k = N then x else q k) := by
  rcases S.alt with ⟨z, _⟩ | B
  · rw [z, S.pN] at hp; omega
  have e : ∀ k, k ≠ N → (if k = N then x else q k) = q k := fun k h => if_neg h
  refine ⟨⟨fun k hk hn => ?_, fun k i hk hi nk ni => ?_, fun i hi => ?_⟩, ⟨fun i j hi hj => ?_, fun j hj hn => ?_, fun j hj => S.du.neg j hj, fun j hj hn => ?_⟩⟩
  · rw [e k hn]; exact A.mt.rn k hk hn
  · rw [e k nk, e i ni]; exact A.mt.inj k i hk hi nk ni
  · obtain ⟨k, k1, k2, k3⟩ := A.mt.cov i hi
    exact ⟨k, k1, k2, by rw [e k k2]; exact k3⟩
  · by_cases z : i = r
    · rw [z]; exact B.feas j hj
    · exact S.du.feas i j (by omega) hj
  · rw [e j (by omega)] at hn ⊢
    exact A.tight j hj (by omega) hn
  · rw [e j (by omega)] at hn
    exact S.du.zero j hj (A.zero j hj (by omega) hn)
theorem Ou.start (O : Ou n N r C u v p) (hr : r < n) {l : Nat → Option Int} {w : Nat → Nat} {d : Nat → Bool} (hl : ∀ k, l k = none) (hd : ∀ k, d k = false) :
    Se n N r C u v (fun k => if k = N then r else p k) l w d N (fun _ => 0) 0 := by
  have e : ∀ k, k ≠ N → (if k = N then r else p k) = p k := fun k h => if_neg h
  refine ⟨if_pos rfl, hd N, ⟨fun k hk _ => ?_, fun k i hk hi _ _ h hn => ?_, fun i hi => ?_⟩, ⟨O.du.feas, fun j hj hn => ?_, O.du.neg, fun j hj hn => ?_⟩, .inl ⟨rfl, rfl, fun k _ => hd k, hl⟩⟩
  · try simp only []
    by_cases z : k = N
    · rw [if_pos z]; omega
    · rw [if_neg z]
      rcases O.mt.rn k hk z with q | q
      · exact .inl q
      · exact .inr (by omega)
  · try simp only [] at h hn
    by_cases z1 : k = N <;> by_cases z2 : i = N
    · omega
    · rw [if_pos z1, if_neg z2] at h
      rcases O.mt.rn i hi z2 with q | q <;> omega
    · rw [if_neg z1, if_pos z2] at h
      rw [if_neg z1] at hn
      rcases O.mt.rn k hk z1 with q | q <;> omega
    · rw [if_neg z1, if_neg z2] at h
      rw [if_neg z1] at hn
      exact O.mt.inj k i hk hi z1 z2 h hn
  · by_cases z : i = r
    · exact ⟨N, Nat.le_refl _, by omega, by simp [z]⟩
    · obtain ⟨k, k1, k2, k3⟩ := O.mt.cov i (by omega)
      exact ⟨k, k1, by omega, by rw [e k k2]; exact k3⟩
  · rw [e j (by omega)] at hn ⊢
    exact O.du.tight j hj hn
  · rw [e j (by omega)] at hn
    exact O.du.zero j hj hn
theorem Ou.first (n N : Nat) (C : Nat → Nat → Int) (hp : ∀ k, p k = n) (hv : ∀ k, v k = 0) : Ou n N 0 C u v p := by
  refine ⟨⟨fun k _ _ => .inl (hp k), fun k i _ _ _ _ _ h => absurd (hp k) h, fun i hi => absurd hi (by omega)⟩, ⟨fun i j hi => absurd hi (by omega), fun j _ h => absurd (hp j) h, fun j _ => by rw [hv]; omega, fun j _ _ => hv j⟩⟩
/-- what comes of it -/
structure Found (n N : Nat) (C : Nat → Nat → Int) (u v : Nat → Int) (f : Nat → Nat) : Prop where
  lt : ∀ i, i < n → f i < N
  inj : ∀ i j, i < n → j < n → f i = f j → i = j
  feas : ∀ i j, i < n → j < N → u i + v j ≤ C i j
  tight : ∀ i, i < n → u i + v (f i) = C i (f i)
  neg : ∀ j, j < N → v j ≤ 0
  zero : ∀ j, j < N → (∀ i, i < n → f i ≠ j) → v j = 0
theorem Ou.found (O : Ou n N n C u v p) {f : Nat → Nat} (hf : ∀ j, j < N → p j ≠ n → f (p j) = j) : Found n N C u v f := by
  have key : ∀ i, i < n → f i < N ∧ p (f i) = i := fun i hi => by
    obtain ⟨k, k1, k2, k3⟩ := O.mt.cov i hi
    have hk : k < N := by omega
    have := hf k hk (by omega)
    rw [k3] at this
    rw [this]
    exact ⟨hk, k3⟩
  refine ⟨fun i hi => (key i hi).1, fun i j hi hj e => by rw [← (key i hi).2, e, (key j hj).2], O.du.feas, fun i hi => ?_, O.du.neg, fun j hj hn => ?_⟩
  · have a := O.du.tight (f i) (key i hi).1 (by rw [(key i hi).2]; omega)
    rw [(key i hi).2] at a
    exact a
  · by_cases z : p j = n
    · exact O.du.zero j hj z
    · have := hf j hj z
      rcases O.mt.rn j (by omega) (by omega) with q | q
      · exact absurd q z
      · exact absurd this (hn (p j) q)
end
/-- goals made so cheap that each is taken -/
theorem Found.fits {n N g : Nat} {sq : Nat → Nat → Int} {u v : Nat → Int} {f : Nat → Nat} {G more : Int} (F : Found n N (fun i c => if c < g then sq i c - more else sq i c) u v f) (hg : g ≤ n) (hgN : g ≤ N)
    (h0 : ∀ i c, i < n → c < N → 0 ≤ sq i c) (hG : ∀ i c, i < n → c < N → sq i c ≤ G) (hm : G < more) :
    Choice n N g f ∧ Fits n N g sq u (fun c => if c < g then v c + more else v c) f := by
  have C : Choice n N g f := by
    refine ⟨F.lt, F.inj, fun c hc => ?_⟩
    by_cases q : ∃ i, i < n ∧ f i = c
    · exact q
    · have no : ∀ i, i < n → f i ≠ c := fun i hi e => q ⟨i, hi, e⟩
      have vz := F.zero c (by omega) no
      by_cases z : ∃ i, i < n ∧ g ≤ f i
      · obtain ⟨i, hi, hgi⟩ := z
        have a := F.feas i c hi (by omega)
        have b := F.tight i hi
        have e := F.neg (f i) (F.lt i hi)
        simp only [if_pos hc] at a
        simp only [if_neg (show ¬ f i < g by omega)] at b
        have x := h0 i (f i) hi (F.lt i hi)
        have y := hG i c hi (by omega)
        omega
      · have all : ∀ i, i < n → f i < g := fun i hi => by
          by_cases y : f i < g
          · exact y
          · exact absurd ⟨i, hi, by omega⟩ z
        have := inj_le (a := n + 1) (b := g) (f := fun i => if i = n then c else f i) (fun i hi => by
          show (if i = n then c else f i) < g
          split
          · exact hc
          · exact all i (by omega)) (fun i j hi hj e => by
          try simp only [] at e
          split at e <;> split at e
          · omega
          · exact absurd e.symm (no j (by omega))
          · exact absurd e (no i (by omega))
          · exact F.inj i j (by omega) (by omega) e)
        omega
  refine ⟨C, ⟨⟨fun i c hi hc => ?_, fun c hg hc => ?_⟩, fun i hi => ?_, fun c hg hc hno => ?_⟩⟩
  · have a := F.feas i c hi hc
    try simp only [] at a ⊢
    split at a
    · rw [if_pos (by assumption)]; omega
    · rw [if_neg (by assumption)]; omega
  · simp only [if_neg (show ¬ c < g by omega)]
    exact F.neg c hc
  · have a := F.tight i hi
    try simp only [] at a ⊢
    split at a
    · rw [if_pos (by assumption)]; omega
    · rw [if_neg (by assumption)]; omega
  · simp only [if_neg (show ¬ c < g by omega)]
    exact F.zero c hc hno
end Lo

namespace Lo
/-! ### who may take whose to: shortest walks, rounds that gain -/
structure Edge where
  a : Nat
  b : Nat
  w : Int
  e : Option Nat
theorem least_nat {P : Nat → Prop} : ∀ n, P n → ∃ m, P m ∧ ∀ k, k < m → ¬ P k := by
  intro n
  induction n using Nat.strongRecOn with
  | ind n ih =>
    intro h
    by_cases q : ∃ k, k < n ∧ P k
    · obtain ⟨k, hk, pk⟩ := q
      exact ih k hk pk
    · exact ⟨n, h, fun k hk pk => q ⟨k, hk, pk⟩⟩
/-- from v back along the edges by which the nodes are reached, k of them, to u; W what they cost -/
inductive Bk (by_ : Nat → Option Edge) : Nat → Nat → Nat → Int → Prop
  | nil (v : Nat) : Bk by_ v 0 v 0
  | cons {v k u : Nat} {W : Int} {e : Edge} (h : by_ v = some e) (t : Bk by_ e.a k u W) : Bk by_ v (k + 1) u (e.w + W)
/-- D is what some walk of at most t edges to v costs -/
inductive Rc (E : List Edge) : Nat → Nat → Int → Prop
  | zero (v : Nat) : Rc E 0 v 0
  | more {t v : Nat} {D : Int} (h : Rc E t v D) : Rc E (t + 1) v D
  | step {t : Nat} {D : Int} {e : Edge} (he : e ∈ E) (h : Rc E t e.a D) : Rc E (t + 1) e.b (D + e.w)
structure Bf (V : Nat) (E : List Edge) (cost : Nat → Int) (by_ : Nat → Option Edge) : Prop where
  z : ∀ v, v < V → by_ v = none → cost v = 0
  s : ∀ v e, v < V → by_ v = some e → e ∈ E ∧ e.b = v ∧ cost e.a + e.w ≤ cost v
  c : ∀ v k W, v < V → Bk by_ v (k + 1) v W → W < 0
/-- edges between nodes below V, none from a node to itself -/
def Ew (V : Nat) (E : List Edge) : Prop := ∀ e, e ∈ E → e.a < V ∧ e.b < V ∧ e.a ≠ e.b
section
variable {V : Nat} {E : List Edge} {cost : Nat → Int} {by_ : Nat → Option Edge}
theorem Bk.down (hE : Ew V E) (B : ∀ v e, v < V → by_ v = some e → e ∈ E ∧ e.b = v ∧ cost e.a + e.w ≤ cost v) {v k u : Nat} {W : Int} (h : Bk by_ v k u W) (hv : v < V) : W ≤ cost v - cost u ∧ u < V := by
  induction h with
  | nil v => exact ⟨by omega, hv⟩
  | cons h t ih =>
    obtain ⟨m, _, l⟩ := B _ _ hv h
    have := ih (hE _ m).1
    exact ⟨by omega, this.2⟩
theorem Bf.start (V : Nat) (E : List Edge) : Bf V E (fun _ => 0) (fun _ => none) :=
  ⟨fun _ _ _ => rfl, fun _ _ _ h => (nomatch h), fun _ _ _ _ h => by cases h with | cons h _ => cases h⟩
theorem Bf.relax (hE : Ew V E) (B : Bf V E cost by_) {e : Edge} (he : e ∈ E) (hlt : cost e.a + e.w < cost e.b) :
    Bf V E (fun v => if v = e.b then cost e.a + e.w else cost v) (fun v => if v = e.b then some e else by_ v) := by
  obtain ⟨ha, hb, hab⟩ := hE e he
  have walk : ∀ {v k u : Nat} {W : Int}, Bk (fun v => if v = e.b then some e else by_ v) v k u W → v < V → u < V ∧ W ≤ cost v - cost u ∧ (W < cost v - cost u ∨ Bk by_ v k u W) := by
    intro v k u W h
    induction h with
    | nil v => intro hv; exact ⟨hv, by omega, .inr (.nil v)⟩
    | @cons v k u W f h t ih =>
      intro hv
      by_cases q : v = e.b
      · simp only [if_pos q] at h
        have ef : e = f := Option.some.inj h
        subst ef
        obtain ⟨i1, i2, _⟩ := ih ha
        subst q
        exact ⟨i1, by omega, .inl (by omega)⟩
      · simp only [if_neg q] at h
        obtain ⟨m1, m2, m3⟩ := B.s v f hv h
        obtain ⟨i1, i2, i3⟩ := ih (hE f m1).1
        refine ⟨i1, by omega, ?_⟩
        rcases i3 with i3 | i3
        · exact .inl (by omega)
        · exact .inr (.cons h i3)
  refine ⟨fun v hv h => ?_, fun v f hv h => ?_, fun v k W hv h => ?_⟩
  · try simp only [] at h ⊢
    split at h
    · cases h
    · rw [if_neg (by assumption)]; exact B.z v hv h
  · try simp only [] at h ⊢
    by_cases q : v = e.b
    · rw [if_pos q] at h
      have ef : e = f := Option.some.inj h
      subst ef
      rw [if_pos q, if_neg hab]
      exact ⟨he, q.symm, Int.le_refl _⟩
    · rw [if_neg q] at h
      obtain ⟨m1, m2, m3⟩ := B.s v f hv h
      rw [if_neg q]
      refine ⟨m1, m2, ?_⟩
      by_cases z : f.a = e.b
      · rw [if_pos z]; rw [z] at m3; omega
      · rw [if_neg z]; exact m3
  · obtain ⟨_, w2, w3⟩ := walk h hv
    rcases w3 with w3 | w3
    · omega
    · exact B.c v k W hv w3
theorem Bk.rc (B : ∀ v e, v < V → by_ v = some e → e ∈ E ∧ e.b = v ∧ cost e.a + e.w ≤ cost v) (hE : Ew V E) {v k u : Nat} {W : Int} (h : Bk by_ v k u W) (hv : v < V) : Rc E k v W := by
  induction h with
  | nil v => exact .zero v
  | @cons v k u W e h t ih =>
    obtain ⟨m, eb, _⟩ := B _ _ hv h
    have := Rc.step m (ih (hE _ m).1)
    rw [eb] at this
    rw [Int.add_comm]
    exact this
theorem Rc.up {t v : Nat} {D : Int} (h : Rc E t v D) : ∀ {s}, t ≤ s → Rc E s v D := by
  intro s hs
  induction s with
  | zero => have : t = 0 := by omega
            subst this; exact h
  | succ s ih =>
    by_cases q : t = s + 1
    · rw [← q]; exact h
    · exact .more (ih (by omega))
/-- within a pass, j edges done -/
structure Ps (V : Nat) (E : List Edge) (t j : Nat) (cost : Nat → Int) (by_ : Nat → Option Edge) (last : Option Nat) : Prop where
  bf : Bf V E cost by_
  up : ∀ v D, v < V → Rc E t v D → cost v ≤ D
  ed : ∀ i e, i < j → E[i]? = some e → ∀ D, Rc E t e.a D → cost e.b ≤ D + e.w
  la : ∀ x, last = some x → x < V ∧ ∀ D, Rc E t x D → cost x < D
  no : last = none → ∀ i e, i < j → E[i]? = some e → cost e.b ≤ cost e.a + e.w
theorem Ps.start {t : Nat} (B : Bf V E cost by_) (h : ∀ v D, v < V → Rc E t v D → cost v ≤ D) : Ps V E t 0 cost by_ none :=
  ⟨B, h, fun i e hi => absurd hi (by omega), fun x h => (nomatch h), fun _ i e hi => absurd hi (by omega)⟩
theorem Ps.stay {t j : Nat} {last : Option Nat} (P : Ps V E t j cost by_ last) (hE : Ew V E) {e : Edge} (he : E[j]? = some e) (hle : cost e.b ≤ cost e.a + e.w) : Ps V E t (j + 1) cost by_ last := by
  obtain ⟨ha, hb, _⟩ := hE e (List.mem_of_getElem? he)
  refine ⟨P.bf, P.up, fun i f hi hf D hD => ?_, P.la, fun hn i f hi hf => ?_⟩
  · by_cases q : i = j
    · subst q
      rw [he] at hf
      have ef : e = f := Option.some.inj hf
      subst ef
      have := P.up _ D ha hD
      omega
    · exact P.ed i f (by omega) hf D hD
  · by_cases q : i = j
    · subst q
      rw [he] at hf
      have ef : e = f := Option.some.inj hf
      subst ef
      exact hle
    · exact P.no hn i f (by omega) hf
theorem Ps.relax {t j : Nat} {last : Option Nat} (P : Ps V E t j cost by_ last) (hE : Ew V E) {e : Edge} (he : E[j]? = some e) (hlt : cost e.a + e.w < cost e.b) :
    Ps V E t (j + 1) (fun v => if v = e.b then cost e.a + e.w else cost v) (fun v => if v = e.b then some e else by_ v) (some e.b) := by
  have hm := List.mem_of_getElem? he
  obtain ⟨ha, hb, hab⟩ := hE e hm
  have dn : ∀ v, (if v = e.b then cost e.a + e.w else cost v) ≤ cost v := fun v => by
    split
    · rename_i q; rw [q]; omega
    · exact Int.le_refl _
  refine ⟨P.bf.relax hE hm hlt, fun v D hv hD => Int.le_trans (dn v) (P.up v D hv hD), fun i f hi hf D hD => ?_, fun x hx => ?_, fun hn => (nomatch hn)⟩
  · by_cases q : i = j
    · subst q
      rw [he] at hf
      have ef : e = f := Option.some.inj hf
      subst ef
      have := P.up _ D ha hD
      simp only [if_pos]
      omega
    · exact Int.le_trans (dn _) (P.ed i f (by omega) hf D hD)
  · have ex : e.b = x := Option.some.inj hx
    subst ex
    refine ⟨hb, fun D hD => ?_⟩
    have := P.up _ D hb hD
    simp only [if_pos]
    omega
theorem Ps.next {t : Nat} {last : Option Nat} (P : Ps V E t E.length cost by_ last) (v : Nat) (D : Int) (hv : v < V) (h : Rc E (t + 1) v D) : cost v ≤ D := by
  cases h with
  | more h => exact P.up v D hv h
  | step he h =>
    obtain ⟨i, hi, e⟩ := List.getElem_of_mem he
    exact P.ed i _ hi (by rw [List.getElem?_eq_getElem hi, e]) _ h

/-! ### a round -/
def it (f : Nat → Nat) : Nat → Nat → Nat
  | 0, x => x
  | k + 1, x => f (it f k x)
theorem it_add (f : Nat → Nat) (a : Nat) : ∀ b x, it f (a + b) x = it f a (it f b x) := by
  induction a with
  | zero => intro b x; rw [Nat.zero_add]; rfl
  | succ a ih => intro b x; rw [show a + 1 + b = (a + b) + 1 by omega]; simp only [it]; rw [ih]
theorem it_one (f : Nat → Nat) (k x : Nat) : it f k (f x) = it f (k + 1) x := by
  have := it_add f k 1 x
  rw [this]; rfl
/-- the node ahead -/
def pr (by_ : Nat → Option Edge) (v : Nat) : Nat := match by_ v with
  | some e => e.a
  | none => 0
def wt (by_ : Nat → Option Edge) (v : Nat) : Int := match by_ v with
  | some e => e.w
  | none => 0
theorem pr_some {v : Nat} {e : Edge} (h : by_ v = some e) : pr by_ v = e.a := by unfold pr; rw [h]
theorem wt_some {v : Nat} {e : Edge} (h : by_ v = some e) : wt by_ v = e.w := by unfold wt; rw [h]
theorem bk_of : ∀ (k v : Nat), (∀ i, i < k → by_ (it (pr by_) i v) ≠ none) → Bk by_ v k (it (pr by_) k v) (sm k fun i => wt by_ (it (pr by_) i v))
  | 0, v, _ => .nil v
  | k + 1, v, h => by
    cases q : by_ v with
    | none => exact absurd q (h 0 (by omega))
    | some e =>
      have ep : pr by_ v = e.a := by unfold pr; rw [q]
      have ew : wt by_ v = e.w := by unfold wt; rw [q]
      have ih := bk_of k (pr by_ v) fun i hi => by rw [it_one]; exact h (i + 1) (by omega)
      rw [it_one] at ih
      have e1 : sm (k + 1) (fun i => wt by_ (it (pr by_) i v)) = e.w + sm k (fun i => wt by_ (it (pr by_) i (pr by_ v))) := by
        have : ∀ (k : Nat) (f : Nat → Int), sm (k + 1) f = f 0 + sm k (fun i => f (i + 1)) := by
          intro k f
          induction k with
          | zero => simp [sm]
          | succ k ih => rw [sm, ih]; simp only [sm]; omega
        rw [this]
        show wt by_ v + _ = _
        rw [ew, sm_congr fun i _ => by rw [← it_one]]
      rw [e1]
      exact .cons q (by rw [← ep]; exact ih)
/-- where something became cheaper in the last pass there is a round -/
theorem Ps.round {many : Nat} {x : Nat} (P : Ps (many + 1) E many E.length cost by_ (some x)) (hE : Ew (many + 1) E) :
    (∀ s, by_ (it (pr by_) s x) ≠ none) ∧ (∀ s, it (pr by_) s x < many + 1) ∧ ∃ c, 1 ≤ c ∧ it (pr by_) c (it (pr by_) (many + 1) x) = it (pr by_) (many + 1) x := by
  obtain ⟨hx, hl⟩ := P.la x rfl
  have low : ∀ s, s ≤ many → by_ (it (pr by_) s x) ≠ none := by
    intro s
    induction s using Nat.strongRecOn with
    | ind s ih =>
      intro hs hn
      have b := bk_of s x fun i hi => ih i hi (by omega)
      obtain ⟨c1, c2⟩ := Bk.down hE P.bf.s b hx
      have c3 := P.bf.z _ c2 hn
      have r := (Bk.rc P.bf.s hE b hx).up hs
      have := hl _ r
      omega
  have lt0 : ∀ s, s ≤ many + 1 → it (pr by_) s x < many + 1 := fun s hs => (Bk.down hE P.bf.s (bk_of s x fun i hi => low i (by omega)) hx).2
  obtain ⟨i, j, h1, h2, e⟩ := pigeon (many + 1) (fun s => it (pr by_) s x) fun s hs => lt0 s (by omega)
  have per : ∀ s, i ≤ s → it (pr by_) (s + (j - i)) x = it (pr by_) s x := fun s hs => by
    have a : s + (j - i) = (s - i) + j := by omega
    have b : s = (s - i) + i := by omega
    rw [a, it_add]
    conv => rhs; rw [b, it_add]
    rw [show it (pr by_) j x = it (pr by_) i x from e.symm]
  have all : ∀ s, ∃ s', s' < many + 1 ∧ it (pr by_) s x = it (pr by_) s' x := by
    intro s
    induction s using Nat.strongRecOn with
    | ind s ih =>
      by_cases q : s < many + 1
      · exact ⟨s, q, rfl⟩
      · obtain ⟨s', h', e'⟩ := ih (s - (j - i)) (by omega)
        have := per (s - (j - i)) (by omega)
        rw [show s - (j - i) + (j - i) = s by omega] at this
        exact ⟨s', h', by rw [this, e']⟩
  refine ⟨fun s => ?_, fun s => ?_, j - i, by omega, ?_⟩
  · obtain ⟨s', h', e'⟩ := all s
    rw [e']
    exact low s' (by omega)
  · obtain ⟨s', h', e'⟩ := all s
    rw [e']
    exact lt0 s' (by omega)
  · rw [← it_add, Nat.add_comm]
    exact per _ (by omega)
end
theorem sm_shift (k : Nat) (f : Nat → Int) : sm (k + 1) f = f 0 + sm k (fun i => f (i + 1)) := by
  induction k with
  | zero => simp [sm]
  | succ k ih => rw [sm, ih]; simp only [sm]; omega
/-- a rearrangement -/
theorem sm_perm {c : Nat} {r : Nat → Nat} {f : Nat → Int} (hl : ∀ i, i < c → r i < c) (inj : ∀ i j, i < c → j < c → r i = r j → i = j) (on : ∀ k, k < c → ∃ i, i < c ∧ r i = k) : sm c (fun i => f (r i)) = sm c f := by
  rw [sm_over hl inj]
  exact sm_congr fun k hk => if_pos (hit_iff.mpr (on k hk))
/-- edges that lead round -/
structure Rnd (E : List Edge) (V c : Nat) (o : Nat → Nat) (ed : Nat → Edge) : Prop where
  pos : 0 < c
  mem : ∀ i, i < c → ed i ∈ E
  fr : ∀ i, i < c → (ed i).a = o i
  to : ∀ i, i < c → (ed i).b = o (if i + 1 < c then i + 1 else 0)
  inj : ∀ i j, i < c → j < c → o i = o j → i = j
  lt : ∀ i, i < c → o i < V
  neg : sm c (fun i => (ed i).w) < 0
/-- the edge by which a node is reached -/
def ee (by_ : Nat → Option Edge) (v : Nat) : Edge := (by_ v).getD ⟨0, 0, 0, none⟩
theorem round_of {V : Nat} {E : List Edge} {cost : Nat → Int} {by_ : Nat → Option Edge} {y c : Nat} (B : Bf V E cost by_) (hE : Ew V E) (hd : ∀ s, by_ (it (pr by_) s y) ≠ none) (hl : ∀ s, it (pr by_) s y < V) (hc : 1 ≤ c) (hr : it (pr by_) c y = y)
    (hm : ∀ k, 1 ≤ k → k < c → it (pr by_) k y ≠ y) : Rnd E V c (fun i => it (pr by_) (c - i) y) (fun i => ee by_ (it (pr by_) (c - 1 - i) y)) := by
  have get : ∀ s, ∃ e, by_ (it (pr by_) s y) = some e ∧ ee by_ (it (pr by_) s y) = e ∧ e.a = it (pr by_) (s + 1) y ∧ wt by_ (it (pr by_) s y) = e.w ∧ e ∈ E ∧ e.b = it (pr by_) s y := fun s => by
    cases q : by_ (it (pr by_) s y) with
    | none => exact absurd q (hd s)
    | some e =>
      obtain ⟨m1, m2, _⟩ := B.s _ e (hl s) q
      exact ⟨e, rfl, by unfold ee; rw [q]; rfl, (pr_some q).symm, wt_some q, m1, m2⟩
  refine ⟨hc, fun i hi => ?_, fun i hi => ?_, fun i hi => ?_, fun i j hi hj e => ?_, fun i hi => hl _, ?_⟩
  · obtain ⟨e, _, h2, _, _, h5, _⟩ := get (c - 1 - i)
    rw [h2]; exact h5
  · obtain ⟨e, _, h2, h3, _, _, _⟩ := get (c - 1 - i)
    rw [h2, h3]; congr 1; omega
  · obtain ⟨e, _, h2, _, _, _, h6⟩ := get (c - 1 - i)
    rw [h2, h6]
    by_cases q : i + 1 < c
    · rw [if_pos q]; congr 1; omega
    · rw [if_neg q, show c - 1 - i = 0 by omega]
      exact hr.symm
  · have key : ∀ a b, 1 ≤ a → a < b → b ≤ c → it (pr by_) a y ≠ it (pr by_) b y := fun a b h1 h2 h3 e => by
      have e2 : it (pr by_) (c - b + b) y = it (pr by_) (c - b + a) y := by rw [it_add, it_add, e]
      rw [show c - b + b = c by omega, hr] at e2
      exact hm (c - b + a) (by omega) (by omega) e2.symm
    by_cases z : i < j
    · exact absurd e.symm (key (c - j) (c - i) (by omega) (by omega) (by omega))
    · by_cases z2 : j < i
      · exact absurd e (key (c - i) (c - j) (by omega) (by omega) (by omega))
      · omega
  · have b := bk_of (by_ := by_) c y fun i _ => hd i
    rw [hr] at b
    have b' := B.c y (c - 1) _ (hl 0) (by rw [show c - 1 + 1 = c by omega]; exact b)
    have e1 : sm c (fun i => (ee by_ (it (pr by_) (c - 1 - i) y)).w) = sm c (fun i => (fun k => wt by_ (it (pr by_) k y)) (c - 1 - i)) := sm_congr fun i _ => by
      obtain ⟨e, _, h2, _, h4, _, _⟩ := get (c - 1 - i)
      show (ee by_ (it (pr by_) (c - 1 - i) y)).w = wt by_ (it (pr by_) (c - 1 - i) y)
      rw [h2, h4]
    rw [e1, sm_perm (r := fun i => c - 1 - i) (f := fun k => wt by_ (it (pr by_) k y)) (fun i hi => by show c - 1 - i < c; omega) (fun i j hi hj e => by have e : c - 1 - i = c - 1 - j := e; omega) fun k hk => ⟨c - 1 - k, by omega, by show c - 1 - (c - 1 - k) = k; omega⟩]
    exact b'
/-- begun elsewhere -/
def rot (c s i : Nat) : Nat := if i + s < c then i + s else i + s - c
theorem rot_lt {c s i : Nat} (hs : s < c) (hi : i < c) : rot c s i < c := by unfold rot; split <;> omega
theorem rot_inj {c s i j : Nat} (hs : s < c) (hi : i < c) (hj : j < c) (e : rot c s i = rot c s j) : i = j := by
  unfold rot at e
  split at e <;> split at e <;> omega
theorem rot_on {c s k : Nat} (hs : s < c) (hk : k < c) : ∃ i, i < c ∧ rot c s i = k := by
  by_cases q : s ≤ k
  · exact ⟨k - s, by omega, by unfold rot; rw [if_pos (by omega)]; omega⟩
  · exact ⟨k + c - s, by omega, by unfold rot; rw [if_neg (by omega)]; omega⟩
theorem Rnd.rot {E : List Edge} {V c : Nat} {o : Nat → Nat} {ed : Nat → Edge} (R : Rnd E V c o ed) {s : Nat} (hs : s < c) : Rnd E V c (fun i => o (rot c s i)) (fun i => ed (Lo.rot c s i)) := by
  refine ⟨R.pos, fun i hi => R.mem _ (rot_lt hs hi), fun i hi => R.fr _ (rot_lt hs hi), fun i hi => ?_, fun i j hi hj e => rot_inj hs hi hj (R.inj _ _ (rot_lt hs hi) (rot_lt hs hj) e), fun i hi => R.lt _ (rot_lt hs hi), ?_⟩
  · show (ed (Lo.rot c s i)).b = o (Lo.rot c s (if i + 1 < c then i + 1 else 0))
    rw [R.to _ (rot_lt hs hi)]
    congr 1
    unfold Lo.rot
    split <;> split <;> split <;> split <;> omega
  · rw [sm_perm (r := Lo.rot c s) (f := fun i => (ed i).w) (fun i hi => rot_lt hs hi) (fun i j hi hj e => rot_inj hs hi hj e) fun k hk => rot_on hs hk]
    exact R.neg

/-! ### the edges of a choice -/
/-- who may take whose to, by how much dearer; n stands for a spare one that is free -/
def Ed (n N g : Nat) (sq : Nat → Nat → Int) (t : Nat → Nat) (e : Edge) : Prop :=
  (e.a < n ∧ e.b < n ∧ e.b ≠ e.a ∧ e.w = sq e.a (t e.b) - sq e.a (t e.a) ∧ e.e = none) ∨
  (e.a < n ∧ e.b = n ∧ ∃ k, e.e = some k ∧ g + k < N ∧ (∀ i, i < n → t i ≠ g + k) ∧ e.w = sq e.a (g + k) - sq e.a (t e.a)) ∨
  (e.a = n ∧ e.b < n ∧ g ≤ t e.b ∧ e.w = 0 ∧ e.e = none)
theorem Ed.ew {n N g : Nat} {sq : Nat → Nat → Int} {t : Nat → Nat} {E : List Edge} (h : ∀ e, e ∈ E → Ed n N g sq t e) : Ew (n + 1) E := fun e he => by
  rcases h e he with ⟨a, b, c, _⟩ | ⟨a, b, _⟩ | ⟨a, b, _⟩ <;> refine ⟨?_, ?_, ?_⟩ <;> omega
def inv : Nat → (Nat → Nat) → Nat → Nat
  | 0, _, _ => 0
  | n + 1, t, c => if t n = c then n else inv n t c
theorem inv_of {t : Nat → Nat} {c : Nat} : ∀ {n : Nat}, (∃ i, i < n ∧ t i = c) → inv n t c < n ∧ t (inv n t c) = c
  | 0, ⟨i, h, _⟩ => absurd h (by omega)
  | n + 1, ⟨i, h, e⟩ => by
    unfold inv
    by_cases q : t n = c
    · rw [if_pos q]; exact ⟨by omega, q⟩
    · rw [if_neg q]
      have : i ≠ n := fun z => q (by rw [← z]; exact e)
      have := inv_of (n := n) ⟨i, by omega, e⟩
      exact ⟨by omega, this.2⟩
/-- nothing gains: the costs are a paper -/
theorem fits_of {n N g : Nat} {sq : Nat → Nat → Int} {t : Nat → Nat} {cost : Nat → Int} (C : Choice n N g t) (h : ∀ e, Ed n N g sq t e → cost e.b ≤ cost e.a + e.w) :
    Fits n N g sq (fun i => sq i (t i) - cost i + cost n) (fun c => if hit n t c = true then cost (inv n t c) - cost n else 0) t := by
  have iv : ∀ i, i < n → inv n t (t i) = i := fun i hi => by
    have a := inv_of (n := n) (t := t) (c := t i) ⟨i, hi, rfl⟩
    exact C.inj _ _ a.1 hi a.2
  have ht : ∀ i, i < n → hit n t (t i) = true := fun i hi => hit_iff.mpr ⟨i, hi, rfl⟩
  refine ⟨⟨fun i c hi hc => ?_, fun c hg hc => ?_⟩, fun i hi => ?_, fun c hg hc hno => ?_⟩
  · by_cases q : hit n t c = true
    · simp only [if_pos q]
      obtain ⟨j, hj, e⟩ := hit_iff.mp q
      subst e
      rw [iv j hj]
      by_cases z : j = i
      · subst z; omega
      · have := h ⟨i, j, sq i (t j) - sq i (t i), none⟩ (.inl ⟨hi, hj, z, rfl, rfl⟩)
        simp only [] at this
        omega
    · simp only [if_neg q]
      have no := hit_false.mp (by simpa using q : hit n t c = false)
      have hg : g ≤ c := by
        by_cases z : c < g
        · obtain ⟨j, hj, e⟩ := C.cov c z
          exact absurd e (no j hj)
        · omega
      have := h ⟨i, n, sq i c - sq i (t i), some (c - g)⟩ (.inr (.inl ⟨hi, rfl, c - g, rfl, by omega, fun j hj => by rw [show g + (c - g) = c by omega]; exact no j hj, by rw [show g + (c - g) = c by omega]⟩))
      simp only [] at this
      omega
  · try simp only []
    by_cases q : hit n t c = true
    · rw [if_pos q]
      obtain ⟨j, hj, e⟩ := hit_iff.mp q
      subst e
      rw [iv j hj]
      have := h ⟨n, j, 0, none⟩ (.inr (.inr ⟨rfl, hj, hg, rfl, rfl⟩))
      simp only [] at this
      omega
    · rw [if_neg q]; exact Int.le_refl _
  · simp only [ht i hi, if_true, iv i hi]
    omega
  · have q := hit_false.mpr hno
    simp [q]

/-! ### a gain -/
/-- who takes whose: the q 0, .., q (m - 1) in a round, the last one takes z -/
structure Gn (n N g : Nat) (sq : Nat → Nat → Int) (t : Nat → Nat) (m : Nat) (q : Nat → Nat) (z : Nat) : Prop where
  pos : 0 < m
  lt : ∀ i, i < m → q i < n
  inj : ∀ i j, i < m → j < m → q i = q j → i = j
  last : z = t (q 0) ∨ (g ≤ t (q 0) ∧ g ≤ z ∧ z < N ∧ ∀ i, i < n → t i ≠ z)
  neg : sm m (fun i => sq (q i) (if i + 1 < m then t (q (i + 1)) else z) - sq (q i) (t (q i))) < 0
theorem Gn.gain {n N g : Nat} {sq : Nat → Nat → Int} {t t' : Nat → Nat} {m : Nat} {q : Nat → Nat} {z : Nat} (G : Gn n N g sq t m q z) (C : Choice n N g t)
    (h1 : ∀ i, i < m → t' (q i) = if i + 1 < m then t (q (i + 1)) else z) (h2 : ∀ j, j < n → (∀ i, i < m → q i ≠ j) → t' j = t j) : Choice n N g t' ∧ price n sq t' < price n sq t := by
  have cs : ∀ j, (∃ i, i < m ∧ q i = j) ∨ ∀ i, i < m → q i ≠ j := fun j => by
    by_cases e : ∃ i, i < m ∧ q i = j
    · exact .inl e
    · exact .inr fun i hi h => e ⟨i, hi, h⟩
  have hz : z < N := by
    rcases G.last with e | ⟨_, _, e, _⟩
    · rw [e]; exact C.lt _ (G.lt 0 G.pos)
    · exact e
  -- the last one's to is nobody's but the first one's
  have zn : ∀ j, j < n → t j = z → j = q 0 := fun j hj e => by
    rcases G.last with f | ⟨_, _, _, f⟩
    · exact C.inj _ _ hj (G.lt 0 G.pos) (by rw [e, f])
    · exact absurd e (f j hj)
  refine ⟨⟨fun j hj => ?_, fun j k hj hk e => ?_, fun c hc => ?_⟩, ?_⟩
  · rcases cs j with ⟨i, hi, e⟩ | e
    · rw [← e, h1 i hi]
      split
      · exact C.lt _ (G.lt _ (by omega))
      · exact hz
    · rw [h2 j hj e]; exact C.lt j hj
  · rcases cs j with ⟨i, hi, e1⟩ | e1 <;> rcases cs k with ⟨i', hi', e2⟩ | e2
    · rw [← e1, ← e2, h1 i hi, h1 i' hi'] at e
      have : i = i' := by
        split at e <;> split at e
        · have := G.inj _ _ (by omega) (by omega) (C.inj _ _ (G.lt _ (by omega)) (G.lt _ (by omega)) e)
          omega
        · have := G.inj _ _ (by omega) G.pos (zn _ (G.lt _ (by omega)) e)
          omega
        · have := G.inj _ _ (by omega) G.pos (zn _ (G.lt _ (by omega)) e.symm)
          omega
        · omega
      rw [← e1, ← e2, this]
    · rw [← e1, h1 i hi, h2 k hk e2] at e
      split at e
      · exact absurd (C.inj _ _ (G.lt _ (by omega)) hk e) (e2 _ (by omega))
      · exact absurd (zn k hk e.symm).symm (e2 0 G.pos)
    · rw [← e2, h1 i' hi', h2 j hj e1] at e
      split at e
      · exact absurd (C.inj _ _ hj (G.lt _ (by omega)) e).symm (e1 _ (by omega))
      · exact absurd (zn j hj e).symm (e1 0 G.pos)
    · rw [h2 j hj e1, h2 k hk e2] at e
      exact C.inj j k hj hk e
  · obtain ⟨j, hj, e⟩ := C.cov c hc
    rcases cs j with ⟨i, hi, e1⟩ | e1
    · by_cases i0 : i = 0
      · subst i0
        rcases G.last with f | ⟨f, _⟩
        · refine ⟨q (m - 1), G.lt _ (by omega), ?_⟩
          have hp := G.pos
          rw [h1 (m - 1) (by omega), if_neg (by omega), f, e1, e]
        · rw [e1, e] at f; omega
      · refine ⟨q (i - 1), G.lt _ (by omega), ?_⟩
        rw [h1 (i - 1) (by omega), if_pos (by omega), show i - 1 + 1 = i by omega, e1, e]
    · exact ⟨j, hj, by rw [h2 j hj e1]; exact e⟩
  · have a : sm n (fun j => sq j (t' j) - sq j (t j)) = sm m (fun i => sq (q i) (t' (q i)) - sq (q i) (t (q i))) := by
      rw [sm_over (v := fun j => sq j (t' j) - sq j (t j)) G.lt G.inj]
      refine sm_congr fun j hj => ?_
      by_cases e : hit m q j = true
      · rw [if_pos e]
      · rw [if_neg e, h2 j hj (hit_false.mp (by simpa using e))]; omega
    have b : sm m (fun i => sq (q i) (t' (q i)) - sq (q i) (t (q i))) < 0 := by
      rw [sm_congr fun i hi => by rw [h1 i hi]]
      exact G.neg
    rw [sm_sub] at a
    unfold price
    omega
/-- a round among the legs -/
theorem Rnd.plain {n N g : Nat} {sq : Nat → Nat → Int} {t : Nat → Nat} {E : List Edge} {c : Nat} {o : Nat → Nat} {ed : Nat → Edge} (R : Rnd E (n + 1) c o ed) (hE : ∀ e, e ∈ E → Ed n N g sq t e) (hno : ∀ i, i < c → o i ≠ n) :
    Gn n N g sq t c o (t (o 0)) := by
  have lt : ∀ i, i < c → o i < n := fun i hi => by have := R.lt i hi; have := hno i hi; omega
  refine ⟨R.pos, lt, R.inj, .inl rfl, ?_⟩
  have e : sm c (fun i => (ed i).w) = sm c (fun i => sq (o i) (if i + 1 < c then t (o (i + 1)) else t (o 0)) - sq (o i) (t (o i))) := sm_congr fun i hi => by
    have h := R.fr i hi
    have k := R.to i hi
    have hb : (ed i).b < n := by rw [k]; split <;> exact lt _ (by omega)
    rcases hE _ (R.mem i hi) with ⟨_, _, _, w, _⟩ | ⟨_, b, _⟩ | ⟨a, _⟩
    · rw [w, h, k]
      congr 2
      split <;> rfl
    · omega
    · have := lt i hi; omega
  rw [← e]
  exact R.neg
/-- a round by a spare one that is free -/
theorem Rnd.free {n N g : Nat} {sq : Nat → Nat → Int} {t : Nat → Nat} {E : List Edge} {c : Nat} {o : Nat → Nat} {ed : Nat → Edge} (R : Rnd E (n + 1) c o ed) (hE : ∀ e, e ∈ E → Ed n N g sq t e) (h0 : o 0 = n) :
    ∃ k, 2 ≤ c ∧ (ed (c - 1)).e = some k ∧ g + k < N ∧ (∀ i, i < n → t i ≠ g + k) ∧ g ≤ t (o 1) ∧ Gn n N g sq t (c - 1) (fun i => o (i + 1)) (g + k) := by
  have hp := R.pos
  have e0 : (ed 0).b < n ∧ g ≤ t (ed 0).b ∧ (ed 0).w = 0 := by
    have h := R.fr 0 hp
    rcases hE _ (R.mem 0 hp) with ⟨a, _⟩ | ⟨a, _⟩ | ⟨_, b, gg, w, _⟩
    · omega
    · omega
    · exact ⟨b, gg, w⟩
  have hc : 2 ≤ c := by
    have k := R.to 0 hp
    by_cases q : 2 ≤ c
    · exact q
    · rw [if_neg (by omega), h0] at k; omega
  have lt : ∀ i, i < c - 1 → o (i + 1) < n := fun i hi => by
    have a := R.lt (i + 1) (by omega)
    by_cases q : o (i + 1) = n
    · have := R.inj (i + 1) 0 (by omega) hp (by rw [q, h0]); omega
    · omega
  have eL : (ed (c - 1)).a = o (c - 1) ∧ (ed (c - 1)).b = n := by
    refine ⟨R.fr _ (by omega), ?_⟩
    rw [R.to _ (by omega), if_neg (by omega), h0]
  have hl := lt (c - 2) (by omega)
  rw [show c - 2 + 1 = c - 1 by omega] at hl
  have o1 : g ≤ t (o 1) := by
    have k := R.to 0 hp
    rw [if_pos (by omega)] at k
    have := e0.2.1
    rw [k] at this
    exact this
  rcases hE _ (R.mem (c - 1) (by omega)) with ⟨_, b, _⟩ | ⟨_, _, k, ke, kN, kf, kw⟩ | ⟨a, _⟩
  · omega
  · refine ⟨k, hc, ke, kN, kf, o1, ⟨by omega, lt, fun i j hi hj e => ?_, .inr ⟨o1, by omega, kN, kf⟩, ?_⟩⟩
    · have := R.inj (i + 1) (j + 1) (by omega) (by omega) e; omega
    · have e : sm c (fun i => (ed i).w) = sm (c - 1) (fun i => sq (o (i + 1)) (if i + 1 < c - 1 then t (o (i + 1 + 1)) else g + k) - sq (o (i + 1)) (t (o (i + 1)))) := by
        rw [show c = (c - 1) + 1 by omega, sm_shift, e0.2.2, Int.zero_add, show c - 1 + 1 - 1 = c - 1 by omega]
        refine sm_congr fun i hi => ?_
        by_cases q : i + 1 < c - 1
        · rw [if_pos q]
          have h := R.fr (i + 1) (by omega)
          have kk := R.to (i + 1) (by omega)
          rw [if_pos (by omega)] at kk
          have l1 := lt i hi
          have l2 := lt (i + 1) q
          rcases hE _ (R.mem (i + 1) (by omega)) with ⟨_, _, _, w, _⟩ | ⟨_, b, _⟩ | ⟨a, _⟩
          · rw [w, h, kk]
          · omega
          · omega
        · rw [if_neg q, show i + 1 = c - 1 by omega, kw, eL.1]
      show sm (c - 1) (fun i => sq (o (i + 1)) (if i + 1 < c - 1 then t (o (i + 1 + 1)) else g + k) - sq (o (i + 1)) (t (o (i + 1)))) < 0
      rw [← e]
      exact R.neg
  · omega
end Lo

namespace Lo
/-! ### one step, list by list -/
def bet (l : Option Int) (h : Int) : Bool := match l with
  | none => true
  | some x => decide (h < x)
section
variable (C : Nat → Nat → Int) (u v : Nat → Int) (p : Nat → Nat) (l : Nat → Option Int) (w : Nat → Nat) (d : Nat → Bool) (j0 : Nat) (st : Int)
def hereF (o : Nat) : Int := C (p j0) o - u (p j0) - v o
def d1F (k : Nat) : Bool := if k = j0 then true else d k
def lF (i o : Nat) : Option Int := if o < i ∧ d1F d j0 o = false ∧ bet (l o) (hereF C u v p j0 o) = true then some (hereF C u v p j0 o) else l o
def wF (i o : Nat) : Nat := if o < i ∧ d1F d j0 o = false ∧ bet (l o) (hereF C u v p j0 o) = true then j0 else w o
def hitF (i x : Nat) : Bool := (List.range i).any fun o => d1F d j0 o && p o == x
def uF (i x : Nat) : Int := if hitF p d j0 i x = true then u x + st else u x
def vF (i o : Nat) : Int := if o < i ∧ d1F d j0 o = true then v o - st else v o
def l2F (l1 : Nat → Option Int) (i o : Nat) : Option Int := if o < i ∧ d1F d j0 o = false then (l1 o).map (· - st) else l1 o
end
section
variable {N : Nat} {C : Nat → Nat → Int} {u v : Nat → Int} {p : Nat → Nat} {l : Nat → Option Int} {w : Nat → Nat} {d : Nat → Bool} {j0 : Nat} {st : Int}
theorem hitF_iff {i x : Nat} : hitF p d j0 i x = true ↔ ∃ o, o < i ∧ d1F d j0 o = true ∧ p o = x := by
  unfold hitF
  simp [List.any_eq_true]
theorem lF_zero : lF C u v p l d j0 0 = l := by funext o; unfold lF; rw [if_neg (by omega)]
theorem wF_zero : wF C u v p l w d j0 0 = w := by funext o; unfold wF; rw [if_neg (by omega)]
theorem uF_zero : uF u p d j0 st 0 = u := by
  funext o; unfold uF
  rw [if_neg]
  rw [hitF_iff]; rintro ⟨o, h, _⟩; omega
theorem vF_zero : vF v d j0 st 0 = v := by funext o; unfold vF; rw [if_neg (by omega)]
theorem l2F_zero {l1 : Nat → Option Int} : l2F d j0 st l1 0 = l1 := by funext o; unfold l2F; rw [if_neg (by omega)]
theorem lF_at {i : Nat} : lF C u v p l d j0 i i = l i := by unfold lF; rw [if_neg (by omega)]
theorem lF_stay {i : Nat} (h : ¬ (d1F d j0 i = false ∧ bet (l i) (hereF C u v p j0 i) = true)) : lF C u v p l d j0 (i + 1) = lF C u v p l d j0 i ∧ wF C u v p l w d j0 (i + 1) = wF C u v p l w d j0 i := by
  have e : ∀ o, (o < i + 1 ∧ d1F d j0 o = false ∧ bet (l o) (hereF C u v p j0 o) = true) ↔ (o < i ∧ d1F d j0 o = false ∧ bet (l o) (hereF C u v p j0 o) = true) := fun o => by
    constructor
    · rintro ⟨a, b⟩
      by_cases z : o = i
      · subst z; exact absurd b h
      · exact ⟨by omega, b⟩
    · rintro ⟨a, b⟩; exact ⟨by omega, b⟩
  constructor
  · funext o; unfold lF; simp only [e o]
  · funext o; unfold wF; simp only [e o]
theorem lF_take {i : Nat} (h : d1F d j0 i = false ∧ bet (l i) (hereF C u v p j0 i) = true) :
    (∀ k, lF C u v p l d j0 (i + 1) k = if k = i then some (hereF C u v p j0 i) else lF C u v p l d j0 i k) ∧ (∀ k, wF C u v p l w d j0 (i + 1) k = if k = i then j0 else wF C u v p l w d j0 i k) := by
  have e : ∀ o, o ≠ i → ((o < i + 1 ∧ d1F d j0 o = false ∧ bet (l o) (hereF C u v p j0 o) = true) ↔ (o < i ∧ d1F d j0 o = false ∧ bet (l o) (hereF C u v p j0 o) = true)) := fun o z => by
    constructor
    · rintro ⟨a, b⟩; exact ⟨by omega, b⟩
    · rintro ⟨a, b⟩; exact ⟨by omega, b⟩
  constructor
  · intro k
    by_cases z : k = i
    · subst z
      unfold lF
      rw [if_pos ⟨by omega, h⟩, if_pos rfl]
    · rw [if_neg z]; unfold lF; simp only [e k z]
  · intro k
    by_cases z : k = i
    · subst z
      unfold wF
      rw [if_pos ⟨by omega, h⟩, if_pos rfl]
    · rw [if_neg z]; unfold wF; simp only [e k z]
theorem uF_done {i : Nat} (h : d1F d j0 i = true) (inj : ∀ o, o < i → d1F d j0 o = true → p o ≠ p i) : uF u p d j0 st i (p i) = u (p i) ∧ ∀ k, uF u p d j0 st (i + 1) k = if k = p i then u (p i) + st else uF u p d j0 st i k := by
  have a : ¬ hitF p d j0 i (p i) = true := by rw [hitF_iff]; rintro ⟨o, h1, h2, h3⟩; exact inj o h1 h2 h3
  refine ⟨by unfold uF; rw [if_neg a], fun k => ?_⟩
  by_cases z : k = p i
  · subst z
    rw [if_pos rfl]
    unfold uF
    rw [if_pos (hitF_iff.mpr ⟨i, by omega, h, rfl⟩)]
  · rw [if_neg z]
    unfold uF
    have e : hitF p d j0 (i + 1) k = true ↔ hitF p d j0 i k = true := by
      rw [hitF_iff, hitF_iff]
      constructor
      · rintro ⟨o, h1, h2, h3⟩
        refine ⟨o, ?_, h2, h3⟩
        by_cases y : o = i
        · rw [y] at h3; exact absurd h3.symm z
        · omega
      · rintro ⟨o, h1, h2, h3⟩; exact ⟨o, by omega, h2, h3⟩
    simp only [e]
theorem uF_open {i : Nat} (h : d1F d j0 i = false) : uF u p d j0 st (i + 1) = uF u p d j0 st i := by
  funext k
  unfold uF
  have e : hitF p d j0 (i + 1) k = true ↔ hitF p d j0 i k = true := by
    rw [hitF_iff, hitF_iff]
    constructor
    · rintro ⟨o, h1, h2, h3⟩
      refine ⟨o, ?_, h2, h3⟩
      by_cases y : o = i
      · rw [y, h] at h2; cases h2
      · omega
    · rintro ⟨o, h1, h2, h3⟩; exact ⟨o, by omega, h2, h3⟩
  simp only [e]
theorem vF_at {i : Nat} : vF v d j0 st i i = v i := by unfold vF; rw [if_neg (by omega)]
theorem vF_done {i : Nat} (h : d1F d j0 i = true) (k : Nat) : vF v d j0 st (i + 1) k = if k = i then v i - st else vF v d j0 st i k := by
  by_cases z : k = i
  · subst z; rw [if_pos rfl]; unfold vF; rw [if_pos ⟨by omega, h⟩]
  · rw [if_neg z]; unfold vF
    have e : (k < i + 1 ∧ d1F d j0 k = true) ↔ (k < i ∧ d1F d j0 k = true) := ⟨fun a => ⟨by omega, a.2⟩, fun a => ⟨by omega, a.2⟩⟩
    simp only [e]
theorem vF_open {i : Nat} (h : d1F d j0 i = false) : vF v d j0 st (i + 1) = vF v d j0 st i := by
  funext k
  unfold vF
  have e : (k < i + 1 ∧ d1F d j0 k = true) ↔ (k < i ∧ d1F d j0 k = true) := ⟨fun a => ⟨by
    by_cases z : k = i
    · rw [z, h] at a; cases a.2
    · omega, a.2⟩, fun a => ⟨by omega, a.2⟩⟩
  simp only [e]
theorem l2F_at {l1 : Nat → Option Int} {i : Nat} : l2F d j0 st l1 i i = l1 i := by unfold l2F; rw [if_neg (by omega)]
theorem l2F_done {l1 : Nat → Option Int} {i : Nat} (h : d1F d j0 i = true ∨ l1 i = none) : l2F d j0 st l1 (i + 1) = l2F d j0 st l1 i := by
  funext k
  by_cases z : k = i
  · subst z
    rw [l2F_at]
    unfold l2F
    rcases h with h | h
    · rw [if_neg (by rw [h]; intro a; cases a.2)]
    · rw [h]; split <;> rfl
  · unfold l2F
    have e : (k < i + 1 ∧ d1F d j0 k = false) ↔ (k < i ∧ d1F d j0 k = false) := ⟨fun a => ⟨by omega, a.2⟩, fun a => ⟨by omega, a.2⟩⟩
    simp only [e]
theorem l2F_open {l1 : Nat → Option Int} {i : Nat} {x : Int} (h : d1F d j0 i = false) (e : l1 i = some x) (k : Nat) : l2F d j0 st l1 (i + 1) k = if k = i then some (x - st) else l2F d j0 st l1 i k := by
  by_cases z : k = i
  · subst z
    rw [if_pos rfl]
    unfold l2F
    rw [if_pos ⟨by omega, h⟩, e]; rfl
  · rw [if_neg z]
    unfold l2F
    have e : (k < i + 1 ∧ d1F d j0 k = false) ↔ (k < i ∧ d1F d j0 k = false) := ⟨fun a => ⟨by omega, a.2⟩, fun a => ⟨by omega, a.2⟩⟩
    simp only [e]
/-- an open column has a distance -/
theorem lF_some {o : Nat} (ho : o < N) (h : d1F d j0 o = false) : ∃ x, lF C u v p l d j0 N o = some x := by
  unfold lF
  by_cases b : bet (l o) (hereF C u v p j0 o) = true
  · rw [if_pos ⟨ho, h, b⟩]; exact ⟨_, rfl⟩
  · rw [if_neg (fun a => b a.2.2)]
    cases e : l o with
    | none => rw [e] at b; exact absurd rfl b
    | some x => exact ⟨x, rfl⟩
theorem stepR_of {best : Nat} (inj : ∀ o k, o ≤ N → k ≤ N → d1F d j0 o = true → d1F d j0 k = true → p o = p k → o = k) (bN : best < N) (bd : d1F d j0 best = false) (bs : lF C u v p l d j0 N best = some st)
    (mn : ∀ o x, o < N → d1F d j0 o = false → lF C u v p l d j0 N o = some x → st ≤ x) :
    StepR N C u v p l w d j0 (uF u p d j0 st (N + 1)) (vF v d j0 st (N + 1)) (l2F d j0 st (lF C u v p l d j0 N) (N + 1)) (wF C u v p l w d j0 N) (d1F d j0) best st (lF C u v p l d j0 N) := by
  refine ⟨fun k => rfl, bN, bd, fun o ho hd => ?_, fun o ho hd => ?_, bs, mn, fun o ho hd => ?_, fun i hi => ?_, fun o ho hd => ?_, fun o ho hd => ?_, fun o ho hd x hx => ?_⟩
  · unfold lF wF
    by_cases b : bet (l o) (hereF C u v p j0 o) = true
    · rw [if_pos ⟨ho, hd, b⟩, if_pos ⟨ho, hd, b⟩]
      refine ⟨_, rfl, Int.le_refl _, fun y hy => ?_, .inl ⟨rfl, rfl⟩⟩
      rw [hy] at b
      have := of_decide_eq_true b
      omega
    · rw [if_neg (fun a => b a.2.2), if_neg (fun a => b a.2.2)]
      cases e : l o with
      | none => rw [e] at b; exact absurd rfl b
      | some x =>
        rw [e] at b
        have : ¬ hereF C u v p j0 o < x := fun z => b (decide_eq_true z)
        refine ⟨x, rfl, ?_, fun y hy => by cases hy; exact Int.le_refl _, .inr ⟨rfl, rfl⟩⟩
        unfold hereF at this
        omega
  · unfold wF; rw [if_neg (fun a => by rw [hd] at a; cases a.2.1)]
  · unfold uF; rw [if_pos (hitF_iff.mpr ⟨o, by omega, hd, rfl⟩)]
  · unfold uF; rw [if_neg]; rw [hitF_iff]; rintro ⟨o, h1, h2, h3⟩; exact hi o (by omega) h2 h3
  · unfold vF; rw [if_pos ⟨by omega, hd⟩]
  · unfold vF; rw [if_neg (fun a => by rw [hd] at a; cases a.2)]
  · unfold l2F; rw [if_pos ⟨by omega, hd⟩, hx]; rfl
end
end Lo

namespace Lo
/-! ### the edges of a choice, as a list -/
section
variable (n g : Nat) (sq : Nat → Nat → Int) (t : Nat → Nat) (fr : List Nat)
def eP (i j : Nat) : Edge := ⟨i, j, sq i (t j) - sq i (t i), none⟩
def eF (i k : Nat) : Edge := ⟨i, n, sq i (g + k) - sq i (t i), some k⟩
def eB (i : Nat) : Edge := ⟨n, i, 0, none⟩
def e1 (i j : Nat) : List Edge := ((List.range j).filter fun x => decide (x ≠ i)).map (eP sq t i)
def e2 (i : Nat) (m : Nat) : List Edge := (fr.take m).map (eF n g sq t i)
def e3 (i : Nat) : List Edge := if g ≤ t i then [eB n i] else []
def eI (i : Nat) : List Edge := e1 sq t i n ++ e2 n g sq t fr i fr.length ++ e3 n g t i
def eds (i : Nat) : List Edge := ((List.range i).map (eI n g sq t fr)).flatten
end
section
variable {n g N : Nat} {sq : Nat → Nat → Int} {t : Nat → Nat} {fr : List Nat}
theorem eds_zero : eds n g sq t fr 0 = [] := rfl
theorem eds_succ (i : Nat) : eds n g sq t fr (i + 1) = eds n g sq t fr i ++ eI n g sq t fr i := by
  unfold eds
  rw [List.range_succ, List.map_append, List.flatten_append]
  simp
theorem e1_zero (i : Nat) : e1 sq t i 0 = [] := rfl
theorem e1_same (i : Nat) : e1 sq t i (i + 1) = e1 sq t i i := by
  unfold e1
  rw [List.range_succ, List.filter_append, List.filter_cons, if_neg (by simp)]; simp
theorem e1_succ {i j : Nat} (h : j ≠ i) : e1 sq t i (j + 1) = e1 sq t i j ++ [eP sq t i j] := by
  unfold e1
  rw [List.range_succ, List.filter_append, List.filter_cons, if_pos (by simp [h]), List.map_append]; simp
theorem e1_len (i j : Nat) : (e1 sq t i j).length ≤ j := by
  unfold e1
  rw [List.length_map]
  have := List.length_filter_le (fun x => decide (x ≠ i)) (List.range j)
  rw [List.length_range] at this
  exact this
theorem e2_zero (i : Nat) : e2 n g sq t fr i 0 = [] := by unfold e2; simp
theorem e2_succ {i m k : Nat} (h : fr[m]? = some k) : e2 n g sq t fr i (m + 1) = e2 n g sq t fr i m ++ [eF n g sq t i k] := by
  unfold e2
  rw [List.take_add_one, h, List.map_append]; rfl
theorem e2_len (i m : Nat) : (e2 n g sq t fr i m).length ≤ fr.length := by
  unfold e2; rw [List.length_map, List.length_take]; omega
theorem e3_len (i : Nat) : (e3 n g t i).length ≤ 1 := by unfold e3; split <;> simp
theorem eI_len (i : Nat) : (eI n g sq t fr i).length ≤ n + fr.length + 1 := by
  unfold eI
  rw [List.length_append, List.length_append]
  have a := e1_len (sq := sq) (t := t) i n
  have b := e2_len (n := n) (g := g) (sq := sq) (t := t) (fr := fr) i fr.length
  have c := e3_len (n := n) (g := g) (t := t) i
  omega
theorem eds_len (hn : n ≤ 50) (hf : fr.length ≤ 50) : ∀ i, (eds n g sq t fr i).length ≤ i * 101
  | 0 => by rw [eds_zero]; simp
  | i + 1 => by
    rw [eds_succ, List.length_append]
    have a := eds_len hn hf i
    have b := eI_len (n := n) (g := g) (sq := sq) (t := t) (fr := fr) i
    omega
theorem eds_mem {e : Edge} : e ∈ eds n g sq t fr n ↔ ∃ i, i < n ∧ e ∈ eI n g sq t fr i := by
  unfold eds
  simp only [List.mem_flatten, List.mem_map, List.mem_range]
  constructor
  · rintro ⟨l, ⟨i, hi, rfl⟩, he⟩; exact ⟨i, hi, he⟩
  · rintro ⟨i, hi, he⟩; exact ⟨_, ⟨i, hi, rfl⟩, he⟩
theorem eI_mem {e : Edge} {i : Nat} : e ∈ eI n g sq t fr i ↔ (∃ j, j < n ∧ j ≠ i ∧ e = eP sq t i j) ∨ (∃ k, k ∈ fr ∧ e = eF n g sq t i k) ∨ (g ≤ t i ∧ e = eB n i) := by
  unfold eI e1 e2 e3
  rw [List.take_length]
  simp only [List.mem_append, List.mem_map, List.mem_filter, List.mem_range, decide_eq_true_eq]
  constructor
  · rintro ((⟨j, ⟨h1, h2⟩, rfl⟩ | ⟨k, h, rfl⟩) | h)
    · exact .inl ⟨j, h1, h2, rfl⟩
    · exact .inr (.inl ⟨k, h, rfl⟩)
    · by_cases q : g ≤ t i
      · rw [if_pos q] at h; exact .inr (.inr ⟨q, List.mem_singleton.mp h⟩)
      · rw [if_neg q] at h; cases h
  · rintro (⟨j, h1, h2, rfl⟩ | ⟨k, h, rfl⟩ | ⟨q, rfl⟩)
    · exact .inl (.inl ⟨j, ⟨h1, h2⟩, rfl⟩)
    · exact .inl (.inr ⟨k, h, rfl⟩)
    · exact .inr (by rw [if_pos q]; exact List.mem_singleton.mpr rfl)
theorem eds_iff (hf : ∀ k, k ∈ fr ↔ g + k < N ∧ ∀ i, i < n → t i ≠ g + k) {e : Edge} : e ∈ eds n g sq t fr n ↔ Ed n N g sq t e := by
  rw [eds_mem]
  constructor
  · rintro ⟨i, hi, h⟩
    rcases eI_mem.mp h with ⟨j, h1, h2, rfl⟩ | ⟨k, hk, rfl⟩ | ⟨q, rfl⟩
    · exact .inl ⟨hi, h1, h2, rfl, rfl⟩
    · obtain ⟨a, b⟩ := (hf k).mp hk
      exact .inr (.inl ⟨hi, rfl, k, rfl, a, b, rfl⟩)
    · exact .inr (.inr ⟨rfl, hi, q, rfl, rfl⟩)
  · obtain ⟨a, b, w, o⟩ := e
    rintro (⟨h1, h2, h3, h4, h5⟩ | ⟨h1, h2, k, h3, h4, h5, h6⟩ | ⟨h1, h2, h3, h4, h5⟩)
    · refine ⟨a, h1, eI_mem.mpr (.inl ⟨b, h2, h3, ?_⟩)⟩
      rw [show w = sq a (t b) - sq a (t a) from h4, show o = none from h5]; rfl
    · refine ⟨a, h1, eI_mem.mpr (.inr (.inl ⟨k, (hf k).mpr ⟨h4, h5⟩, ?_⟩))⟩
      rw [show b = n from h2, show o = some k from h3, show w = sq a (g + k) - sq a (t a) from h6]; rfl
    · refine ⟨b, h2, eI_mem.mpr (.inr (.inr ⟨h3, ?_⟩))⟩
      rw [show a = n from h1, show w = 0 from h4, show o = none from h5]; rfl
end
end Lo

namespace Lo
theorem sm_all_zero : ∀ {n : Nat} {f : Nat → Int}, (∀ i, i < n → 0 ≤ f i) → sm n f = 0 → ∀ i, i < n → f i = 0
  | 0, _, _, _, i, hi => absurd hi (by omega)
  | n + 1, f, h, e, i, hi => by
    have a := sm_nonneg (n := n) (f := f) fun i hi => h i (by omega)
    have b := h n (by omega)
    have e : sm n f + f n = 0 := e
    by_cases q : i = n
    · rw [q]; omega
    · exact sm_all_zero (n := n) (fun i hi => h i (by omega)) (by omega) i (by omega)
/-- a paper that a choice fits, is fitted by every choice of that price -/
theorem Fits.move {n N g : Nat} {sq : Nat → Nat → Int} {u v : Nat → Int} {f t : Nat → Nat} (F : Fits n N g sq u v f) (Cf : Choice n N g f) (Ct : Choice n N g t) (e : price n sq t = price n sq f) : Fits n N g sq u v t := by
  have tight := F.tight Cf
  have ha : ∀ i, i < n → 0 ≤ sq i (t i) - (u i + v (t i)) := fun i hi => by have := F.le i (t i) hi (Ct.lt i hi); omega
  have hb : ∀ c, c < N → 0 ≤ (if hit n t c = true then v c else 0) - v c := fun c hc => by
    by_cases q : hit n t c = true
    · rw [if_pos q]; omega
    · rw [if_neg q]
      have hg : g ≤ c := by
        by_cases z : c < g
        · exact absurd (hit_iff.mpr (Ct.cov c z)) q
        · omega
      have := F.np c hg hc
      omega
  have sa : sm n (fun i => sq i (t i) - (u i + v (t i))) = price n sq t - (sm n u + sm n fun i => v (t i)) := by rw [sm_sub, sm_add]; rfl
  have sb : sm N (fun c => (if hit n t c = true then v c else 0) - v c) = sm N (fun c => if hit n t c = true then v c else 0) - sm N v := sm_sub _ _ _
  have so := sm_over (v := v) Ct.lt Ct.inj
  have na := sm_nonneg ha
  have nb := sm_nonneg hb
  have za := sm_all_zero ha (by omega)
  have zb := sm_all_zero hb (by omega)
  refine ⟨F.toPaper, fun i hi => by have := za i hi; omega, fun c hg hc hno => ?_⟩
  have := zb c hc
  rw [if_neg (by rw [hit_iff]; rintro ⟨i, hi, q⟩; exact hno i hi q)] at this
  omega
theorem Fits.same {n N g : Nat} {sq : Nat → Nat → Int} {u v u' v' : Nat → Int} {f t : Nat → Nat} (F : Fits n N g sq u v f) (Cf : Choice n N g f) (G : Fits n N g sq u' v' t) (Ct : Choice n N g t) : price n sq t = price n sq f :=
  Int.le_antisymm (G.least Ct Cf) (F.least Cf Ct)
end Lo

/-! own rules: what walks over a list or a tuple, whichever it is -/
namespace Lo
open PySem PySem.Spec PyProof.Rows L2

/-- a list (false) or a tuple (true) is read at a -/
def SqB (b : Bool) (K : PySem.W.Frag) (H : Hp) (a : Addr) (xs : List V) : Prop := match b with
  | false => SqL K H a xs
  | true => SqT K H a xs
def ItB (b : Bool) (h : Heap) (it a : Addr) (i : Nat) : Prop := match b with
  | false => h.IsListIter it a i
  | true => h.IsTupleIter it a i
def ObB (b : Bool) (h : Heap) (a : Addr) (xs : Array Value) : Prop := match b with
  | false => h.IsList a xs
  | true => h.IsTuple a xs
def itO (b : Bool) (a : Addr) : Obj := match b with
  | false => { cls := .type "list_iterator", data := .fields #[.ref a, .int 0 0] }
  | true => { cls := .type "tuple_iterator", data := .fields #[.ref a, .int 0 0] }
theorem draws_b {prog : Program} {w : World} {A : Around} (hh : A.handled = none) (b : Bool) (it l : Addr) (hne : l ≠ it) (items : Array Value) :
    Draws prog w A it [it, l] items.size (fun i v => items[i]? = some v) (fun i h => ItB b h it l i ∧ ObB b h l items) := by
  cases b with
  | false => exact Draws.list hh it l hne items
  | true => exact Draws.tuple hh it l hne items
theorem begins_b (b : Bool) (a : Addr) (items : Array Value) : Begins (.ref a) (itO b a) fun h => ObB b h a items := by
  cases b with
  | false => exact begins_list a items
  | true => exact begins_tuple a items
theorem itB_new {b : Bool} {h : Heap} {it a : Addr} (e : h.get? it = some (itO b a)) : ItB b h it a 0 := by
  cases b with
  | false => exact ⟨_, e, rfl, rfl⟩
  | true => exact ⟨_, e, rfl, rfl⟩
theorem ItB.at_ {b : Bool} {h h' : Heap} {it a : Addr} {i : Nat} (x : ItB b h it a i) (e : ∀ o, h.get? it = some o → h'.get? it = some o) : ItB b h' it a i := by
  cases b with
  | false => exact Heap.IsListIter.at x e
  | true => exact Heap.IsTupleIter.at x e
theorem ItB.ob {b : Bool} {h : Heap} {it a : Addr} {i : Nat} (x : ItB b h it a i) : ∃ o, h.get? it = some o ∧ ∀ v, o.data ≠ .cell v := by
  cases b with
  | false => obtain ⟨o, e, _, d⟩ := x; exact ⟨o, e, fun v q => by rw [d] at q; cases q⟩
  | true => obtain ⟨o, e, _, d⟩ := x; exact ⟨o, e, fun v q => by rw [d] at q; cases q⟩
section
variable {X : Cx} {pins : List (Addr × Obj)} {σ : L2.St} {H : Hp} {s : Shared} {b : Bool} {a : Addr} {xs ys : List V}
theorem sq_b (I : Inv X pins σ H s) (h : SqB b X.K H a xs) : ∃ its : List Value, Vals xs its ∧ ObB b s.heap a its.toArray ∧ xs.length ≤ sizeLine := by
  cases b with
  | false => obtain ⟨its, r, p, z⟩ := I.list h; exact ⟨its, r, p.isList, z⟩
  | true => obtain ⟨its, r, p, z⟩ := I.tuple h; exact ⟨its, r, p, z⟩
theorem sq_inj (I : Inv X pins σ H s) (h : SqB b X.K H a xs) (h' : SqB b X.K H a ys) : xs = ys := by
  cases b with
  | false => exact I.list_inj h h'
  | true => exact I.tuple_inj h h'
theorem ObB.lt {h : Heap} {items : Array Value} (x : ObB b h a items) : a < h.objs.size := by
  cases b with
  | false => obtain ⟨o, e, _⟩ := x; exact Heap.lt_size e
  | true => obtain ⟨o, e, _⟩ := x; exact Heap.lt_size e
end

/-! ### enumerate(xs), xs a list or a tuple -/
def ItE (b : Bool) (K : PySem.W.Frag) (a : Addr) : It :=
  ⟨fun i H => ∃ (xs : List V) (x : V), SqB b K H a xs ∧ xs[i]? = some x,
    fun i H v H' => ∃ T x, v = .ref T ∧ H T = none ∧ H' = upd H T (.tup [.int (i : Nat), x]) ∧ ∀ xs, SqB b K H a xs → xs[i]? = some x,
    fun i H => ∃ xs : List V, SqB b K H a xs ∧ i = xs.length⟩
theorem turn_enumB {P : Program} {w : World} {K : PySem.W.Frag} {elts : List Expr} {kk : Nat} {tpos : Pos} {b : Bool} (a e it : Addr) (ne : e ≠ it) (na : a ≠ it) (ea : e ≠ a) :
    Turn P w K (.Tuple elts kk tpos) (ItE b K a) [e, it] e (fun i h => (∃ old, IsEnum h e it (0 + (i : Int)) old) ∧ ItB b h it a i) where
  mem := by simp
  obj := fun i h st c hc => by
    obtain ⟨⟨old, he⟩, hi⟩ := st
    have q : c = e ∨ c = it := by simpa using hc
    rcases q with q | q
    · rw [q]; exact ⟨_, he, fun v z => nomatch z⟩
    · rw [q]; exact hi.ob
  keep := fun i h h' st k => let ⟨⟨old, he⟩, hi⟩ := st; ⟨⟨old, k e (by simp) _ he⟩, hi.at_ fun o q => k it (by simp) o q⟩
  item := by
    intro X hP hw hK hc i pins s σ H E I hf st hg
    subst hP hw hK
    obtain ⟨⟨old, he⟩, hi⟩ := st
    obtain ⟨xs, x, hq, hx⟩ := hg
    obtain ⟨its, rv, p, _⟩ := sq_b I hq
    obtain ⟨u, hu, ru⟩ := rv.get hx
    have hlt : i < its.toArray.size := by
      obtain ⟨z, _⟩ := List.getElem?_eq_some_iff.mp hu
      simpa using z
    have W := GoesN.enumFrom (elts := elts) (x1 := kk) (pos := tpos) (A := X.A) 0 (draws_b (prog := X.prog) (w := X.w) (A := X.A.in1) (show X.A.in1.handled = none from I.ok.hd hc) b it a na its.toArray) e ne (by simp [ne, ea]) (by simp)
    refine W.goes i s _ _ hlt ⟨⟨old, he⟩, hi, p⟩ fun v h' tk hY st' hk _ => ?_
    obtain ⟨T, t, y, rfl, hT, hy, hT2⟩ := hY
    have ey : y = u := by simpa [hu] using hy.symm
    subst ey
    have hi1 : e < s.heap.objs.size := Heap.lt_size he
    have hi2 : it < s.heap.objs.size := by obtain ⟨o, q, _⟩ := hi.ob; exact Heap.lt_size q
    have new : ObjOk X.prog X.w (upd H T (.tup [.int (i : Nat), x])) h' T (.tup [.int (i : Nat), x]) := by
      rw [Int.zero_add] at hT2
      exact ⟨by show 2 ≤ sizeLine; decide, [.int (i : Int) t, y], .cons ⟨_, rfl⟩ (.cons ru .nil), hT2⟩
    have I1 := I.turnedNew (t' := tk) (ch := [e, it]) hk hf hT new
    refine ⟨.ref T, _, I1, rfl, ⟨T, x, rfl, I.hok.fresh hT, rfl, fun zs hz => by rw [sq_inj I hz hq]; exact hx⟩, ?_, fun c hcm => ?_⟩
    · obtain ⟨⟨old', he'⟩, hi', _⟩ := st'
      exact ⟨⟨old', he'⟩, hi'⟩
    · have q : c = e ∨ c = it := by simpa using hcm
      have hlt : c < s.heap.objs.size := by rcases q with q | q <;> (rw [q]; assumption)
      rw [upd_ne (Nat.ne_of_lt (Nat.lt_of_lt_of_le hlt hT))]
      exact (hf c hcm).1
  done := by
    intro X hP hw hK hc i pins s σ H E I hf st hg
    subst hP hw hK
    obtain ⟨⟨old, he⟩, hi⟩ := st
    obtain ⟨xs, hq, rfl⟩ := hg
    obtain ⟨its, rv, p, _⟩ := sq_b I hq
    have hl : its.toArray.size = xs.length := by simpa using rv.length.symm
    have W := GoesN.enumFrom (elts := elts) (x1 := kk) (pos := tpos) (A := X.A) 0 (draws_b (prog := X.prog) (w := X.w) (A := X.A.in1) (show X.A.in1.handled = none from I.ok.hd hc) b it a na its.toArray) e ne (by simp [ne, ea]) (by simp)
    refine W.stops s (fun s1 => Inv X pins σ H s1) _ ?_ fun h' tk hk _ => I.turnedL (t' := tk) (ch := [e, it]) hk hf
    rw [hl]
    exact ⟨⟨old, he⟩, hi, p⟩
  self := fun A i s Q E st h => let ⟨⟨_, he⟩, _⟩ := st; wpAny_pyIter_enum he h
theorem meets_enum1 {v : Value} {o : Obj} {H : Heap → Prop} (B : Begins v o H) :
    Meets (Builtin.«enumerate.__new__» ⟨[.type "enumerate", v], []⟩) (fun _ R s => H s.heap ∧
      R (.ok (.ret (.ref (s.heap.push o).objs.size))) { s with heap := (s.heap.push o).push { cls := .type "enumerate", data := .fields #[.none, .bool false, .ref s.heap.objs.size, rawInt 0, .none, .none] } }) :=
  .of_wp fun prog w A R s h => by
    obtain ⟨hp, g, d, tk, os⟩ := s
    obtain ⟨h1, h⟩ := h
    have sub1 := sub_enumerate
    have iter1 : ∀ {A' : Around} {E : Value → Shared → Prop} {Q : Value → Shared → Prop}, Q (.ref hp.objs.size) ⟨hp.push o, g, d, tk, os⟩ → wpAny (model prog w) A' (pyIter v) Q E ⟨hp, g, d, tk, os⟩ :=
      fun q => B.iter prog w _ _ ⟨hp, g, d, tk, os⟩ _ h1 q
    wp_walk using iter1
    refine wpAny_stack_any fun st => wpAny_pure ?_
    split
    · rename_i c _ _ _ _ _
      cases (c == Value.type "enumerate") <;> (wp_walk using iter1; exact ⟨_, rfl, h⟩)
    · wp_walk using iter1
      exact ⟨_, rfl, h⟩
theorem call_enum1 {prog : Program} {w : World} {A : Around} {E : Value → Shared → Prop} {s : Shared} {v : Value} {o : Obj} {H : Heap → Prop} {Q : Value → Shared → Prop} (B : Begins v o H) (h1 : H s.heap)
    (h : ∀ h', IsEnum h' (s.heap.objs.size + 1) s.heap.objs.size 0 .none → h'.get? s.heap.objs.size = some o → (∀ b u, s.heap.get? b = some u → h'.get? b = some u) → Q (.ref (s.heap.objs.size + 1)) { s with heap := h' }) :
    wpAny (model prog w) A (call (.type "enumerate") [v]) Q E s := by
  refine callType_new F.called_enumerate (by decide) (F.typeCall_enumerate_1 _) (F.newCall_enumerate_1 _) (fun obj => F.args_object_init_2 obj _) F.entry_enumerate_new (meets_enum1 B) ⟨h1, ?_⟩
  have z1 : (s.heap.push o).objs.size = s.heap.objs.size + 1 := Heap.size_push ..
  have g1 := Heap.get?_push_size (s.heap.push o) (o := { cls := .type "enumerate", data := .fields #[.none, .bool false, .ref s.heap.objs.size, rawInt 0, .none, .none] }) rfl
  show _ ∧ _
  rw [z1] at g1 ⊢
  exact ⟨⟨_, g1, rfl⟩, h _ g1 (Heap.get?_push_of_some _ (Heap.get?_push_size _ B.free)) fun b u x => Heap.get?_push_of_some _ (Heap.get?_push_of_some _ x)⟩
def iEnB (b : Bool) (K : PySem.W.Frag) (ta : TA) : TI := fun σ H R => ta σ H fun vs H1 => ∃ a xs, vs = [.ref a] ∧ SqB b K H1 a xs ∧ R (ItE b K a) H1
theorem pi_enB {X : Cx} (b : Bool) {e : Expr} {ta : TA} {p pos tpos : Pos} {elts : List Expr} {kk : Nat} (hg : Gl X "enumerate") (hm : X.mg "enumerate" = none) (ha : PA X [e] ta) (hs : starEach [e] X.env = [(false, eval e X.env)] := by rfl) :
    PI X (.Tuple elts kk tpos) (.Call (.Name "enumerate" p) [e] [] pos) (iEnB b X.K ta) := by
  refine ⟨fun pins s σ H R I h => ?_⟩
  refine Call_ (ld_blt I hg hm boot_enumerate (PyProof.Rows.callWith_type1 (thn (ha.run pos pins s σ H _ I h) fun us s1 ⟨vs, H1, I1, r1, q1⟩ => ?_) hs rfl))
  obtain ⟨a, xs, rfl, hq, q⟩ := q1
  have eu : us = [Value.ref a] := by
    cases r1 with
    | cons r rr => cases rr; cases r; rfl
  subst eu
  obtain ⟨its, rv, ob, _⟩ := sq_b I1 hq
  have hlt := ob.lt
  refine call_enum1 (begins_b b a its.toArray) ob fun h' he hit hk => wpAny_pyIter_enum he ?_
  have I2 : Inv X pins σ H1 { s1 with heap := h' } := I1.kept (t' := s1.toks) hk
  refine ⟨s1.heap.objs.size + 1, [s1.heap.objs.size + 1, s1.heap.objs.size], _, _, H1, rfl, I2, turn_enumB (b := b) a (s1.heap.objs.size + 1) s1.heap.objs.size (Nat.succ_ne_self _) (Nat.ne_of_lt hlt) (Nat.ne_of_gt (Nat.lt_succ_of_lt hlt)), ⟨⟨.none, he⟩, itB_new hit⟩, fun c hcm => ?_, q⟩
  have e' : c = s1.heap.objs.size + 1 ∨ c = s1.heap.objs.size := by simpa using hcm
  have hle : s1.heap.objs.size ≤ c := by
    rcases e' with e' | e'
    · rw [e']; exact Nat.le_succ _
    · rw [e']; exact Nat.le_refl _
  exact I1.fpOk hle (I1.hok.fresh hle)
theorem walk_enB {b : Bool} {K : PySem.W.Frag} {a : Addr} {xs : List V} : Walk (ItE b K a) xs.length (fun H => SqB b K H a xs) (YPair (fun i => some (.int (i : Nat))) (fun i => xs[i]?)) := by
  refine ⟨fun i _ hi q => ⟨xs, xs[i], q, by simp [hi]⟩, fun _ q => ⟨xs, q, rfl⟩, fun i H v H' _ q y => ?_⟩
  obtain ⟨T, x, h1, h2, h3, h4⟩ := y
  exact ⟨T, .int (i : Nat), x, h1, h2, h3, rfl, h4 xs q⟩

/-! ### zip(xs, ys), each a list or a tuple -/
def ItG (b c : Bool) (K : PySem.W.Frag) (a d : Addr) : It :=
  ⟨fun i H => ∃ (xs ys : List V) (x y : V), SqB b K H a xs ∧ SqB c K H d ys ∧ xs[i]? = some x ∧ ys[i]? = some y,
    fun i H v H' => ∃ T x y, v = .ref T ∧ H T = none ∧ H' = upd H T (.tup [x, y]) ∧ (∀ xs, SqB b K H a xs → xs[i]? = some x) ∧ ∀ ys, SqB c K H d ys → ys[i]? = some y,
    fun i H => ∃ xs ys : List V, SqB b K H a xs ∧ SqB c K H d ys ∧ i = min xs.length ys.length⟩
theorem turn_zipB {P : Program} {w : World} {K : PySem.W.Frag} {elts : List Expr} {kk : Nat} {tpos : Pos} {b c : Bool} {a d z TI TO i1 i2 : Addr} (S : ZipSep2 z TI TO i1 i2 [i1, a] [i2, d]) (na : a ≠ i1) (nd : d ≠ i2) :
    Turn P w K (.Tuple elts kk tpos) (ItG b c K a d) [z, TI, TO, i1, i2] z (fun i h => IsZip h z TI TO .none ∧ IsTupOf2 h TI (.ref i1) (.ref i2) ∧ (∃ x y, IsTupOf2 h TO x y) ∧ ItB b h i1 a i ∧ ItB c h i2 d i) where
  mem := by simp
  obj := fun i h st k hk => by
    obtain ⟨hz, hTI, ⟨x, y, hTO⟩, h1, h2⟩ := st
    have q : k = z ∨ k = TI ∨ k = TO ∨ k = i1 ∨ k = i2 := by simpa using hk
    rcases q with q | q | q | q | q
    · rw [q]; exact ⟨_, hz, fun v z => nomatch z⟩
    · rw [q]; exact ⟨_, hTI, fun v z => nomatch z⟩
    · rw [q]; exact ⟨_, hTO, fun v z => nomatch z⟩
    · rw [q]; exact h1.ob
    · rw [q]; exact h2.ob
  keep := fun i h h' st k => by
    obtain ⟨hz, hTI, ⟨x, y, hTO⟩, h1, h2⟩ := st
    exact ⟨k z (by simp) _ hz, k TI (by simp) _ hTI, ⟨x, y, k TO (by simp) _ hTO⟩, h1.at_ fun o q => k i1 (by simp) o q, h2.at_ fun o q => k i2 (by simp) o q⟩
  item := by
    intro X hP hw hK hc i pins s σ H E I hf st hg
    subst hP hw hK
    obtain ⟨hz, hTI, ⟨x0, y0, hTO⟩, h1, h2⟩ := st
    obtain ⟨xs, ys, x, y, hqx, hqy, hx, hy⟩ := hg
    obtain ⟨its, rv, p, _⟩ := sq_b I hqx
    obtain ⟨its2, rv2, p2, _⟩ := sq_b I hqy
    obtain ⟨u, hu, ru⟩ := rv.get hx
    obtain ⟨u2, hu2, ru2⟩ := rv2.get hy
    have l1 : i < its.toArray.size := by
      obtain ⟨q, _⟩ := List.getElem?_eq_some_iff.mp hu
      simpa using q
    have l2 : i < its2.toArray.size := by
      obtain ⟨q, _⟩ := List.getElem?_eq_some_iff.mp hu2
      simpa using q
    have hh : X.A.in1.handled = none := I.ok.hd hc
    have W := GoesN.zip2 (elts := elts) (x1 := kk) (pos := tpos) (A := X.A) S (draws_b (prog := X.prog) (w := X.w) hh b i1 a na its.toArray) (draws_b (prog := X.prog) (w := X.w) hh c i2 d nd its2.toArray)
    have wr : ∀ k, k ∉ [z, TI, TO, i1, i2] → k ∉ [z, TO, i1, i2] := fun k h1 h2 => h1 (by
      have h2 : k = z ∨ k = TO ∨ k = i1 ∨ k = i2 := by simpa using h2
      rcases h2 with q | q | q | q <;> simp [q])
    refine W.goes i s _ _ (by omega) ⟨hz, hTI, ⟨x0, y0, hTO⟩, ⟨h1, p⟩, ⟨h2, p2⟩⟩ fun v h' tk hY st' hk _ => ?_
    obtain ⟨T, y1, y2, rfl, hT, q1, q2, hT2⟩ := hY
    have e1 : y1 = u := by simpa [hu] using q1.symm
    have e2 : y2 = u2 := by simpa [hu2] using q2.symm
    subst e1 e2
    have new : ObjOk X.prog X.w (upd H T (.tup [x, y])) h' T (.tup [x, y]) := ⟨by show 2 ≤ sizeLine; decide, [y1, y2], .cons ru (.cons ru2 .nil), hT2⟩
    have I1 := I.turnedNew (t' := tk) (ch := [z, TI, TO, i1, i2]) (fun k o hb => hk k o (wr k hb)) hf hT new
    refine ⟨.ref T, _, I1, rfl, ⟨T, x, y, rfl, I.hok.fresh hT, rfl, fun zs hz => by rw [sq_inj I hz hqx]; exact hx, fun zs hz => by rw [sq_inj I hz hqy]; exact hy⟩, ?_, fun k hkm => ?_⟩
    · obtain ⟨a1, a2, a3, ⟨a4, _⟩, ⟨a5, _⟩⟩ := st'
      exact ⟨a1, a2, a3, a4, a5⟩
    · have q : k = z ∨ k = TI ∨ k = TO ∨ k = i1 ∨ k = i2 := by simpa using hkm
      have hlt : k < s.heap.objs.size := by
        rcases q with q | q | q | q | q
        · rw [q]; exact Heap.lt_size hz
        · rw [q]; exact Heap.lt_size hTI
        · rw [q]; exact Heap.lt_size hTO
        · rw [q]; obtain ⟨_, e, _⟩ := h1.ob; exact Heap.lt_size e
        · rw [q]; obtain ⟨_, e, _⟩ := h2.ob; exact Heap.lt_size e
      rw [upd_ne (Nat.ne_of_lt (Nat.lt_of_lt_of_le hlt hT))]
      exact (hf k hkm).1
  done := by
    intro X hP hw hK hc i pins s σ H E I hf st hg
    subst hP hw hK
    obtain ⟨hz, hTI, ⟨x0, y0, hTO⟩, h1, h2⟩ := st
    obtain ⟨xs, ys, hqx, hqy, rfl⟩ := hg
    obtain ⟨its, rv, p, _⟩ := sq_b I hqx
    obtain ⟨its2, rv2, p2, _⟩ := sq_b I hqy
    have l1 : its.toArray.size = xs.length := by simpa using rv.length.symm
    have l2 : its2.toArray.size = ys.length := by simpa using rv2.length.symm
    have hh : X.A.in1.handled = none := I.ok.hd hc
    have W := GoesN.zip2 (elts := elts) (x1 := kk) (pos := tpos) (A := X.A) S (draws_b (prog := X.prog) (w := X.w) hh b i1 a na its.toArray) (draws_b (prog := X.prog) (w := X.w) hh c i2 d nd its2.toArray)
    have wr : ∀ k, k ∉ [z, TI, TO, i1, i2] → k ∉ [z, TO, i1, i2] := fun k h1 h2 => h1 (by
      have h2 : k = z ∨ k = TO ∨ k = i1 ∨ k = i2 := by simpa using h2
      rcases h2 with q | q | q | q <;> simp [q])
    refine W.stops s (fun s1 => Inv X pins σ H s1) _ ?_ fun h' tk hk _ => I.turnedL (t' := tk) (ch := [z, TI, TO, i1, i2]) (fun k o hb => hk k o (wr k hb)) hf
    rw [l1, l2]
    exact ⟨hz, hTI, ⟨x0, y0, hTO⟩, ⟨h1, p⟩, ⟨h2, p2⟩⟩
  self := fun A i s Q E st h => wpAny_pyIter_zip st.1 h
theorem sep2_new {n a d : Addr} (h1 : a < n) (h2 : d < n) : ZipSep2 (n + 4) (n + 2) (n + 3) n (n + 1) [n, a] [n + 1, d] := by
  have lt : ∀ (x : Addr) (k : Nat), x < n → n + k ≠ x := fun x k h => Nat.ne_of_gt (Nat.lt_of_lt_of_le h (Nat.le_add_right _ _))
  have nn : ∀ j k : Nat, j ≠ k → (n : Nat) + j ≠ n + k := fun j k h e => h (Nat.add_left_cancel e)
  have n0 : ∀ j : Nat, j ≠ 0 → (n : Nat) + j ≠ n := fun j h e => h (Nat.add_left_cancel (e.trans (Nat.add_zero n).symm))
  refine ⟨nn _ _ (by decide), nn _ _ (by decide), nn _ _ (by decide), n0 _ (by decide), by simp, ?_, ?_, nn _ _ (by decide), by simp, ?_, ?_, ?_, ?_⟩
  · simp only [List.mem_cons, List.not_mem_nil, or_false, not_or]; exact ⟨n0 _ (by decide), lt _ _ h1⟩
  · simp only [List.mem_cons, List.not_mem_nil, or_false, not_or]; exact ⟨n0 _ (by decide), lt _ _ h1⟩
  · simp only [List.mem_cons, List.not_mem_nil, or_false, not_or]; exact ⟨nn _ _ (by decide), lt _ _ h2⟩
  · simp only [List.mem_cons, List.not_mem_nil, or_false, not_or]; exact ⟨nn _ _ (by decide), lt _ _ h2⟩
  · simp only [List.mem_cons, List.not_mem_nil, or_false, not_or]; exact ⟨fun e => n0 1 (by decide) e.symm, lt _ 0 h2⟩
  · simp only [List.mem_cons, List.not_mem_nil, or_false, not_or]; exact ⟨n0 _ (by decide), lt _ _ h1⟩
def iZpB (b c : Bool) (K : PySem.W.Frag) (ta : TA) : TI := fun σ H R => ta σ H fun vs H1 => ∃ a d xs ys, vs = [.ref a, .ref d] ∧ SqB b K H1 a xs ∧ SqB c K H1 d ys ∧ R (ItG b c K a d) H1
theorem pi_zpB {X : Cx} (b c : Bool) {e e2 : Expr} {ta : TA} {p pos tpos : Pos} {elts : List Expr} {kk : Nat} (hg : Gl X "zip") (hm : X.mg "zip" = none) (ha : PA X [e, e2] ta)
    (hs : starEach [e, e2] X.env = (false, eval e X.env) :: starEach [e2] X.env := by rfl) (hpl : (backTo pos (starEach [e2] X.env)).any (·.1) = false := by rfl) :
    PI X (.Tuple elts kk tpos) (.Call (.Name "zip" p) [e, e2] [] pos) (iZpB b c X.K ta) := by
  refine ⟨fun pins s σ H R I h => ?_⟩
  refine Call_ (ld_blt I hg hm PyProof.Rows.boot_zip (PyProof.Rows.callWith_type1 (thn (ha.run pos pins s σ H _ I h) fun us s1 ⟨vs, H1, I1, r1, q1⟩ => ?_) hs hpl))
  obtain ⟨a, d, xs, ys, rfl, hqx, hqy, q⟩ := q1
  have eu : us = [Value.ref a, Value.ref d] := by
    cases r1 with
    | cons r rr =>
      cases rr with
      | cons r' rr => cases rr; cases r; cases r'; rfl
  subst eu
  obtain ⟨its, rv, p1, _⟩ := sq_b I1 hqx
  obtain ⟨its2, rv2, p2, _⟩ := sq_b I1 hqy
  have g1 := p1.lt
  have g2 := p2.lt
  refine zip_begins2 (begins_b b a its.toArray) (begins_b c d its2.toArray) p1 p2 fun h' hz hTI hTO h1 h2 _ hk => wpAny_pyIter_zip hz ?_
  have I2 : Inv X pins σ H1 { s1 with heap := h' } := I1.kept (t' := s1.toks) hk
  refine ⟨s1.heap.objs.size + 4, [s1.heap.objs.size + 4, s1.heap.objs.size + 2, s1.heap.objs.size + 3, s1.heap.objs.size, s1.heap.objs.size + 1], _, _, H1, rfl, I2, turn_zipB (b := b) (c := c) (a := a) (d := d) (sep2_new g1 g2) (Nat.ne_of_lt g1) (Nat.ne_of_lt (Nat.lt_succ_of_lt g2)), ⟨hz, hTI, ⟨_, _, hTO⟩, itB_new h1, itB_new h2⟩, fun k hkm => ?_, q⟩
  have e' : k = s1.heap.objs.size + 4 ∨ k = s1.heap.objs.size + 2 ∨ k = s1.heap.objs.size + 3 ∨ k = s1.heap.objs.size ∨ k = s1.heap.objs.size + 1 := by simpa using hkm
  have hle : s1.heap.objs.size ≤ k := by
    rcases e' with e | e | e | e | e <;> rw [e] <;> first | exact Nat.le_refl _ | exact Nat.le_add_right _ _
  exact I1.fpOk hle (I1.hok.fresh hle)
theorem walk_zpB {b c : Bool} {K : PySem.W.Frag} {a d : Addr} {xs ys : List V} : Walk (ItG b c K a d) (min xs.length ys.length) (fun H => SqB b K H a xs ∧ SqB c K H d ys) (YPair (fun i => xs[i]?) (fun i => ys[i]?)) := by
  refine ⟨fun i _ hi q => ?_, fun _ q => ⟨xs, ys, q.1, q.2, rfl⟩, fun i H v H' _ q y => ?_⟩
  · have h1 : i < xs.length := by omega
    have h2 : i < ys.length := by omega
    exact ⟨xs, ys, xs[i], ys[i], q.1, q.2, by simp [h1], by simp [h2]⟩
  · obtain ⟨T, x, y, h1, h2, h3, h4, h5⟩ := y
    exact ⟨T, x, y, h1, h2, h3, h4 xs q.1, h5 ys q.2⟩

/-! ### xs[i] op= e on a list -/
theorem get_list {X : Cx} : PGet X (rIxL X.K) := by
  intro pins s σ H o i ov iv Q I ro ri h
  obtain ⟨p, xs, k, z, rfl, rfl, hq, he, q⟩ := h
  cases ro
  obtain ⟨t, rfl⟩ := ri
  obtain ⟨its, r, pl, hz⟩ := I.list hq
  obtain ⟨j, h1, h2, h3, h4, h5⟩ := atI_get he
  obtain ⟨w, ew, rw'⟩ := r.get h2
  have hl := r.length
  have hn := line63
  have fin : EP X pins σ Q w s := ⟨z, H, I, rw', q⟩
  by_cases h0 : 0 ≤ k
  · have hj : k.toNat = j := by
      rw [seqIndex_of h0 h5] at h1
      exact Option.some.inj h1
    exact wpAny_getItem_list (items := its.toArray) pl.isList h0 (by omega) (by rw [hj]; simpa using ew) fin
  · have hj : (k + (its.toArray.size : Int)).toNat = j := by
      rw [seqIndex_neg (by omega) h4] at h1
      rw [List.size_toArray, ← hl]
      exact Option.some.inj h1
    exact wpAny_getItem_list_neg (x := w) pl.isList (by omega) (by rw [List.size_toArray] <;> omega) (by omega) (by rw [hj]; simpa using ew) fin
end Lo

/-! own rules: sum of a tuple, min of pairs, in over a tuple, dict of pairs, the size of a set -/
namespace Lo
open PySem PySem.Spec PyProof.Rows L2
section
variable {X : Cx}

/-! ### sum(t), t a tuple of whole numbers -/
def rSumT (K : PySem.W.Frag) : List V → Hp → VK → Prop := fun vs H Q => ∃ (a : Addr) (ns : List Int), vs = [V.ref a] ∧ SqT K H a (ns.map V.int) ∧ Q (.int ns.sum) H
theorem preSum_get (ns : List Int) : ∀ j, j ≤ ns.length → preSum (fun i => ns.getD i 0) j = (ns.take j).sum
  | 0, _ => rfl
  | j + 1, h => by
    have hlt : j < ns.length := h
    show preSum (fun i => ns.getD i 0) j + ns.getD j 0 = _
    rw [preSum_get ns j (Nat.le_of_lt hlt), List.take_add_one, List.getElem?_eq_getElem hlt, List.sum_append, List.getD_eq_getElem?_getD, List.getElem?_eq_getElem hlt]
    simp
theorem cr_sumT (hc : X.calm = true) : CallR X (.builtin "sum") (rSumT X.K) := by
  intro pins s σ H vs us Q I r h
  obtain ⟨a, ns, rfl, hs, q⟩ := h
  obtain ⟨its, rv, ht, _⟩ := I.tuple hs
  rw [Vals.ref1 r]
  have hl : its.toArray.size = ns.length := by rw [List.size_toArray, ← rv.length, List.length_map]
  have hlt : a < s.heap.objs.size := by obtain ⟨o, e, _⟩ := id ht; exact Heap.lt_size e
  have hit : s.heap.IsTuple a its.toArray := ht
  refine call_sum_walkG (wpAny_pyIter_tuple hit ?_)
  refine ⟨_, _, _, _, _, _, fun i => ns.getD i 0, rfl, Walks.tuple (A := X.A.in1) (show X.A.in1.handled = none from I.ok.hd hc) s.heap.objs.size a (Nat.ne_of_lt hlt) its.toArray, ⟨⟨_, Heap.get?_push_size _ rfl, rfl, rfl⟩, hit.push _⟩, fun b hb => ?_, fun i v hv => ?_, fun h' tk t' hk => ?_⟩
  · show b < (s.heap.push _).objs.size
    rw [Heap.size_push]
    rcases List.mem_cons.mp hb with e | hb
    · rw [e]; exact Nat.lt_succ_self _
    · rw [List.mem_singleton.mp hb]; exact Nat.lt_succ_of_lt hlt
  · have hv' : its[i]? = some v := by simpa using hv
    cases e : ns[i]? with
    | none =>
      have l1 : ns.length ≤ i := List.getElem?_eq_none_iff.mp e
      obtain ⟨l2, _⟩ := List.getElem?_eq_some_iff.mp hv'
      rw [List.size_toArray] at hl
      omega
    | some k =>
      obtain ⟨u, e1, t, e2⟩ := rv.get (i := i) (x := .int k) (by rw [List.getElem?_map, e]; rfl)
      rw [hv'] at e1
      refine ⟨t, ?_⟩
      rw [Option.some.inj e1, e2]
      show Value.int k t = Value.int (ns.getD i 0) t
      rw [List.getD_eq_getElem?_getD, e]; rfl
  · rw [hl, preSum_get ns _ (Nat.le_refl _), List.take_length]
    refine ⟨.int ns.sum, H, I.kept (t' := tk) fun b o e => hk b o (fun hb => ?_) (Heap.get?_push_of_some _ e), ⟨_, rfl⟩, q⟩
    have e1 := Heap.lt_size e
    rw [List.mem_singleton.mp hb] at e1
    exact absurd e1 (Nat.lt_irrefl _)

/-! ### min(xs), xs a list of pairs of whole numbers -/
def rMinP (K : PySem.W.Frag) : List V → Hp → VK → Prop := fun vs H Q => ∃ (a : Addr) (ps : List (Addr × Int × Int)), vs = [V.ref a] ∧ SqL K H a (ps.map fun p => V.ref p.1) ∧ (∀ p ∈ ps, SqT K H p.1 [.int p.2.1, .int p.2.2]) ∧ ps ≠ [] ∧
  ∀ p ∈ ps, (∀ q ∈ ps, p.2.1 ≤ q.2.1) → Q (.ref p.1) H
theorem le_of_min (x : Int × Int) : ∀ (xs : List (Int × Int)), (∀ q ∈ x :: xs, (PySem.W.minOf x xs).1 ≤ q.1) := by
  intro xs
  suffices h : ∀ (xs : List (Int × Int)) (x : Int × Int), (PySem.W.minOf x xs).1 ≤ x.1 ∧ ∀ q ∈ xs, (PySem.W.minOf x xs).1 ≤ q.1 by
    intro q hq
    rcases List.mem_cons.mp hq with e | e
    · rw [e]; exact (h xs x).1
    · exact (h xs x).2 q e
  intro xs
  induction xs with
  | nil => intro x; exact ⟨Int.le_refl _, fun q hq => nomatch hq⟩
  | cons y ys ih =>
    intro x
    have e : PySem.W.minOf x (y :: ys) = PySem.W.minOf (if PySem.W.DatumOrd.lt y x = true then y else x) ys := rfl
    obtain ⟨i1, i2⟩ := ih (if PySem.W.DatumOrd.lt y x = true then y else x)
    rw [e]
    have lt : PySem.W.DatumOrd.lt y x = (if y.1 = x.1 then decide (y.2 < x.2) else decide (y.1 < x.1)) := rfl
    by_cases c : PySem.W.DatumOrd.lt y x = true
    · rw [if_pos c] at i1 i2 ⊢
      have : y.1 ≤ x.1 := by
        rw [lt] at c
        split at c
        · omega
        · have := of_decide_eq_true c; omega
      refine ⟨by omega, fun q hq => ?_⟩
      rcases List.mem_cons.mp hq with e | e
      · rw [e]; exact i1
      · exact i2 q e
    · rw [if_neg c] at i1 i2 ⊢
      have : x.1 ≤ y.1 := by
        rw [lt] at c
        split at c
        · omega
        · have c' : ¬ y.1 < x.1 := fun z => c (decide_eq_true z)
          omega
      refine ⟨i1, fun q hq => ?_⟩
      rcases List.mem_cons.mp hq with e | e
      · rw [e]; omega
      · exact i2 q e
theorem refs_raw : ∀ {ps : List (Addr × Int × Int)} {us : List Value}, Vals (ps.map fun p => V.ref p.1) us → us = ps.map fun p => Value.ref p.1
  | [], _, .nil => rfl
  | p :: ps, _, .cons r t => by
    cases r
    rw [List.map_cons, ← refs_raw t]
theorem pair_raw {pins : List (Addr × Obj)} {σ : L2.St} {H : Hp} {s : Shared} {a : Addr} {i j : Int} (I : Inv X pins σ H s) (h : SqT X.K H a [.int i, .int j]) : PySem.W.Holds s.heap (.ref a) ((i, j) : Int × Int) := by
  obtain ⟨its, rv, ht, _⟩ := I.tuple h
  cases rv with
  | cons r1 rv =>
    cases rv with
    | cons r2 rv =>
      cases rv
      obtain ⟨t, rfl⟩ := r1
      obtain ⟨u, rfl⟩ := r2
      exact PySem.W.holds_pair (show s.heap.IsTuple a #[.int i t, .int j u] from ht) (PySem.W.holds_int i t) (PySem.W.holds_int j u)
theorem hold_raw {pins : List (Addr × Obj)} {σ : L2.St} {H : Hp} {s : Shared} (I : Inv X pins σ H s) : ∀ (ps : List (Addr × Int × Int)), (∀ p ∈ ps, SqT X.K H p.1 [.int p.2.1, .int p.2.2]) →
    PySem.W.HoldAll s.heap (ps.map fun p => Value.ref p.1) (ps.map fun p => ((p.2.1, p.2.2) : Int × Int))
  | [], _ => PySem.W.HoldAll.nil
  | p :: ps, h => PySem.W.HoldAll.cons (pair_raw I (h p List.mem_cons_self)) (hold_raw I ps fun q hq => h q (List.mem_cons_of_mem _ hq))
theorem cr_minP (hc : X.calm = true) (hu : X.A.units + 64 < cLine) : CallR X (.builtin "min") (rMinP X.K) := by
  intro pins s σ H vs us Q I r h
  obtain ⟨a, ps, rfl, hs, hp, hne, q⟩ := h
  obtain ⟨its, rv, pl, _⟩ := I.list hs
  rw [Vals.ref1 r]
  have eits := refs_raw rv
  subst eits
  obtain ⟨p, ps', rfl⟩ : ∃ p ps', ps = p :: ps' := by
    cases ps with
    | nil => exact absurd rfl hne
    | cons p ps' => exact ⟨p, ps', rfl⟩
  have hall := hold_raw I (p :: ps') hp
  refine PySem.W.min_list_datum (α := Int × Int) (x := (p.2.1, p.2.2)) (xs := ps'.map fun p => ((p.2.1, p.2.2) : Int × Int)) (I.ok.hd hc) pl.isList (by simpa using hall) ?_ fun i v h' tk hv hh hk => ?_
  · have : PySem.W.Datum.depth (Int × Int) ≤ 3 := by decide
    omega
  · have hv' : ((p :: ps').map fun p => Value.ref p.1)[i]? = some v := by simpa using hv
    rw [List.getElem?_map] at hv'
    obtain ⟨x, hx, e⟩ := Option.map_eq_some_iff.mp hv'
    subst e
    have hm := List.mem_of_getElem? hx
    have I' : Inv X pins σ H { s with heap := h', toks := tk } := I.kept (t' := tk) hk
    have h1 := pair_raw I' (hp x hm)
    obtain ⟨l, va, vb, e1, e2, e3, e4⟩ := PySem.W.pair_of_holds h1
    obtain ⟨l', va', vb', f1, f2, f3, f4⟩ := PySem.W.pair_of_holds hh
    cases e1
    cases f1
    have ev : va = va' := by
      obtain ⟨o, g1, _, n, g2⟩ := e2
      obtain ⟨o', g1', _, n', g2'⟩ := f2
      rw [g1] at g1'
      cases g1'
      rw [g2] at g2'
      injection g2' with g3 _
      exact Option.some.inj (congrArg (fun (x : Array Value) => x[0]?) g3)
    obtain ⟨t, rfl⟩ := PySem.W.int_of_holds e3
    obtain ⟨t', e5⟩ := PySem.W.int_of_holds f3
    rw [← ev] at e5
    injection e5 with e5 _
    refine ⟨.ref x.1, H, I', rfl, q x hm fun y hy => ?_⟩
    rw [e5]
    refine le_of_min _ _ _ ?_
    have := List.mem_map_of_mem (f := fun p : Addr × Int × Int => ((p.2.1, p.2.2) : Int × Int)) hy
    rw [List.map_cons] at this
    exact this

/-! ### x in t, t a tuple of data -/
def rInT (K : PySem.W.Frag) : R2 := fun x y H Q => ∃ d ds, Dp K H x d ∧ Dp K H y (.tuple ds) ∧ SeqAt.shaped d = true ∧ SeqAt.shaped (.tuple ds) = true ∧ Q (.bl (ds.any fun z => PyData.eqv z d)) H
def rNotInT (K : PySem.W.Frag) : R2 := fun x y H Q => ∃ d ds, Dp K H x d ∧ Dp K H y (.tuple ds) ∧ SeqAt.shaped d = true ∧ SeqAt.shaped (.tuple ds) = true ∧ Q (.bl (!ds.any fun z => PyData.eqv z d)) H
theorem op_inT (hu : X.A.units + 65 < cLine) : OpR X (compareOp .In) (rInT X.K) := by
  intro pins s σ H x y v u Q I rx ry h
  obtain ⟨d, ds, hd, he, sd, se, q⟩ := h
  obtain ⟨as, r1⟩ := Dp.reads I d x v hd rx
  obtain ⟨bs, r2⟩ := Dp.reads I (.tuple ds) y u he ry
  exact SeqAt.in_tuple_reads r2 r1 (SeqAt.canLay_of_shaped se) (SeqAt.canLay_of_shaped sd) (room_in_shaped sd hu) ⟨.bl _, H, I, rfl, q⟩
theorem op_notInT (hu : X.A.units + 65 < cLine) : OpR X (compareOp .NotIn) (rNotInT X.K) := by
  intro pins s σ H x y v u Q I rx ry h
  obtain ⟨d, ds, hd, he, sd, se, q⟩ := h
  obtain ⟨as, r1⟩ := Dp.reads I d x v hd rx
  obtain ⟨bs, r2⟩ := Dp.reads I (.tuple ds) y u he ry
  exact SeqAt.notIn_tuple_reads r2 r1 (SeqAt.canLay_of_shaped se) (SeqAt.canLay_of_shaped sd) (room_in_shaped sd hu) ⟨.bl _, H, I, rfl, q⟩

/-! ### len of a set of tuples -/
def rLenSt (P : Program) (w : World) : List V → Hp → VK → Prop := fun vs H Q => ∃ (a : Addr) (L : List (Addr × List Int)), vs = [V.ref a] ∧ H a = some (SetTO P w a L) ∧ ((L.map (·.2)).Nodup → Q (.int L.length) H)
theorem cr_lenSt : CallR X (.builtin "len") (rLenSt X.prog X.w) := by
  intro pins s σ H vs us Q I r h
  obtain ⟨a, L, rfl, ha, q⟩ := h
  have R0 : SetT0 X.prog X.w s.heap a L := (I.hok a _ ha).1
  rw [Vals.ref1 r]
  obtain ⟨es, ep, t, ⟨o, ho, hex, hd⟩, hrow, htab, hnd, _, _, hroom, hfew⟩ := R0.ex
  have hsz : es.size = L.length := by
    have h := congrArg List.length hrow
    rw [Array.length_toList] at h
    rw [h]
    unfold rowsOf
    rw [List.length_map]
  have hfit : t.fits es.size = true := by
    have h1 := htab.sz
    rw [List.length_map] at h1
    unfold SetTable.fits SetTable.fill
    rw [htab.dm, Bool.and_eq_true, beq_iff_eq, decide_eq_true_eq]
    show t.place.size = es.size ∧ t.place.size + 0 ≤ t.mask
    omega
  exact call_len_set ho hex hd hfit (by omega) ⟨.int L.length, H, I.tok _, ⟨_, by rw [hsz]⟩, q hnd⟩

/-! ### dict(xs), xs a list of pairs (tuple, value) -/
def putAll : List (List Key × V) → List (List Key × V) → List (List Key × V)
  | acc, [] => acc
  | acc, p :: ps => putAll (putK acc p.1 p.2) ps
theorem putAll_new : ∀ (ps acc : List (List Key × V)), (acc ++ ps).map (·.1) |>.Nodup → putAll acc ps = acc ++ ps
  | [], acc, _ => by simp [putAll]
  | p :: ps, acc, h => by
    have e : putK acc p.1 p.2 = acc ++ [p] := by
      unfold putK
      rw [if_neg]
      intro q
      obtain ⟨x, hx, e⟩ := List.any_eq_true.mp q
      have e := of_decide_eq_true e
      rw [List.map_append, List.nodup_append] at h
      exact h.2.2 x.1 (List.mem_map_of_mem hx) p.1 (List.mem_map_of_mem List.mem_cons_self) e
    show putAll (putK acc p.1 p.2) ps = _
    rw [e, putAll_new ps (acc ++ [p]) (by rw [List.append_assoc]; exact h), List.append_assoc]
    rfl
theorem KT.all {H : Hp} : ∀ {ps : List (List Key × V)} {qs : List (List Key × Addr × Value)}, KT H ps qs → ∀ {acc : List (List Key × V)} {ac : List (List Key × Addr × Value)}, KT H acc ac → KT H (putAll acc ps) (storedAllH ac qs)
  | _, _, .nil, _, _, h => h
  | _, _, .cons (a := p) (b := q) ⟨h1, h2, h3⟩ t, acc, ac, h => by
    show KT H (putAll (putK acc p.1 p.2) _) (storedAllH (storedH ac q.1 q.2.1 q.2.2) _)
    rw [← h1]
    exact KT.all t (h.put p.1 h2 h3)
def rDictT (K : PySem.W.Frag) : List V → Hp → VK → Prop := fun vs H Q => ∃ (a : Addr) (ps : List (Addr × Addr × List Key × V)), vs = [V.ref a] ∧ SqL K H a (ps.map fun p => V.ref p.1) ∧
  (∀ p ∈ ps, SqT K H p.1 [.ref p.2.1, p.2.2.2] ∧ H p.2.1 = some (.tup (p.2.2.1.map kV))) ∧ ∀ d, H d = none → Q (.ref d) (upd H d (.dT (putAll [] (ps.map fun p => (p.2.2.1, p.2.2.2)))))
theorem refs_raw2 : ∀ {ps : List (Addr × Addr × List Key × V)} {us : List Value}, Vals (ps.map fun p => V.ref p.1) us → us = ps.map fun p => Value.ref p.1
  | [], _, .nil => rfl
  | p :: ps, _, .cons r t => by
    cases r
    rw [List.map_cons, ← refs_raw2 t]
theorem putAll_len : ∀ (ps acc : List (List Key × V)), (putAll acc ps).length ≤ acc.length + ps.length
  | [], acc => by simp [putAll]
  | p :: ps, acc => by
    have a := putAll_len ps (putK acc p.1 p.2)
    have b : (putK acc p.1 p.2).length ≤ acc.length + 1 := by
      unfold putK
      split
      · rw [List.length_map]; omega
      · rw [List.length_append]; simp
    show (putAll (putK acc p.1 p.2) ps).length ≤ _
    rw [List.length_cons]
    omega
/-- the raw rows of such a list -/
theorem rows_raw {pins : List (Addr × Obj)} {σ : L2.St} {H : Hp} {s : Shared} (I : Inv X pins σ H s) : ∀ (ps : List (Addr × Addr × List Key × V)), (∀ p ∈ ps, SqT X.K H p.1 [.ref p.2.1, p.2.2.2] ∧ H p.2.1 = some (.tup (p.2.2.1.map kV))) →
    ∃ qs : List (List Key × Addr × Value), KT H (ps.map fun p => (p.2.2.1, p.2.2.2)) qs ∧ ∀ (j : Nat) (p : Addr × Addr × List Key × V), ps[j]? = some p → ∃ u : Value, qs[j]? = some (p.2.2.1, p.2.1, u) ∧ s.heap.IsTuple p.1 #[.ref p.2.1, u]
  | [], _ => ⟨[], .nil, fun j p h => by simp at h⟩
  | p :: ps, h => by
    obtain ⟨qs, k, r⟩ := rows_raw I ps fun q hq => h q (List.mem_cons_of_mem _ hq)
    obtain ⟨h1, h2⟩ := h p List.mem_cons_self
    obtain ⟨its, rv, ht, _⟩ := I.tuple h1
    cases rv with
    | cons r1 rv =>
      cases rv with
      | @cons _ u _ _ r2 rv =>
        cases rv
        cases r1
        refine ⟨(p.2.2.1, p.2.1, u) :: qs, .cons ⟨rfl, h2, r2⟩ k, fun j q hj => ?_⟩
        cases j with
        | zero =>
          have e : p = q := by simpa using hj
          subst e
          exact ⟨u, rfl, ht⟩
        | succ j => exact r j q (by simpa using hj)
theorem cr_dictT (hc : X.calm = true) (hu : X.A.units + 64 < cLine) : CallR X (.type "dict") (rDictT X.K) := by
  intro pins s σ H vs us Q I r h
  obtain ⟨a, ps, rfl, hs, hp, q⟩ := h
  obtain ⟨its, rv, pl, hz⟩ := I.list hs
  rw [Vals.ref1 r]
  have eits := refs_raw2 rv
  subst eits
  rw [List.length_map] at hz
  obtain ⟨qs, hk, hrow⟩ := rows_raw I ps hp
  have hlq : qs.length = ps.length := by
    have := Paired.length hk
    rw [List.length_map] at this
    exact this.symm
  obtain ⟨o, n, ho, hcl, hdn, hdat⟩ := pl
  have qat : ∀ (j : Nat), j < ps.length → ∃ (p : Addr × Addr × List Key × V) (u : Value), ps[j]? = some p ∧ qs[j]? = some (p.2.2.1, p.2.1, u) ∧ s.heap.IsTuple p.1 #[.ref p.2.1, u] := fun j hj => by
    obtain ⟨u, h1, h2⟩ := hrow j ps[j] (List.getElem?_eq_getElem hj)
    exact ⟨ps[j], u, List.getElem?_eq_getElem hj, h1, h2⟩
  have P := PairArg.list (prog := X.prog) (w := X.w) a (ps.map fun p => Value.ref p.1).toArray (fun j => (ps.map (·.1)).getD j 0) (qs.map fun x => (Value.ref x.2.1, x.2.2))
  refine call_dict_pairsH (knd := tupleKind (mixKind X.prog X.w)) (ps := qs) P (I.ok.hd hc) (show X.A.in1.in1.units < cLine from ?_) ⟨⟨o, n, ho, hcl, hdn, hdat⟩, ?_, fun j k v hj => ?_⟩ ⟨by rw [List.length_map], fun i key v hr => ?_⟩ (fun h' hk' x hx => ?_) (by rw [List.length_map, hlq]; exact hz) fun h' tk hd' hk' => ?_
  · show X.A.units + 1 + 1 < cLine
    omega
  · simp [hlq]
  · rw [List.getElem?_map] at hj
    obtain ⟨x, hx, e⟩ := Option.map_eq_some_iff.mp hj
    have hlt : j < ps.length := by
      obtain ⟨l, _⟩ := List.getElem?_eq_some_iff.mp hx
      omega
    obtain ⟨p, u, e1, e2, ht⟩ := qat j hlt
    rw [hx] at e2
    cases e2
    cases e
    have eT : (ps.map (·.1)).getD j 0 = p.1 := by rw [List.getD_eq_getElem?_getD, List.getElem?_map, e1]; rfl
    refine ⟨?_, ?_⟩
    · show (ps.map fun p => Value.ref p.1).toArray[j]? = some (Value.ref ((ps.map (·.1)).getD j 0))
      rw [eT]
      simp [e1]
    · show PairAt s.heap ((ps.map (·.1)).getD j 0) (.ref p.2.1) u
      rw [eT]
      exact .inl ht
  · have hr : (qs.map fun x => (Value.ref x.2.1, x.2.2))[i]? = some (key, v) := hr
    rw [List.getElem?_map] at hr
    obtain ⟨x, hx, e⟩ := Option.map_eq_some_iff.mp hr
    cases e
    exact ⟨x.1, x.2.1, hx, rfl⟩
  · obtain ⟨j, hj⟩ := List.getElem?_of_mem hx
    have hlt : j < ps.length := by
      obtain ⟨l, _⟩ := List.getElem?_eq_some_iff.mp hj
      omega
    obtain ⟨p, u, e1, e2, _⟩ := qat j hlt
    rw [hj] at e2
    cases e2
    have := key_of I.hok (hp p (List.mem_of_getElem? e1)).2
    obtain ⟨o2, its2, n2, g1, g2, g3, g4⟩ := this
    exact ⟨o2, its2, n2, hk' _ _ (Nat.ne_of_lt (Heap.lt_size g1)) (by simp) g1, g2, g3, g4⟩
  · have hn : H s.heap.objs.size = none := I.hok.fresh (Nat.le_refl _)
    obtain ⟨o2, es, ep, g1, g2, g3, g4, g5, g6⟩ := hd'
    have kt := KT.all hk (acc := []) (ac := []) .nil
    have hlen : (putAll [] (ps.map fun p => (p.2.2.1, p.2.2.2))).length ≤ sizeLine := by
      have := putAll_len (ps.map fun p => (p.2.2.1, p.2.2.2)) []
      rw [List.length_map, List.length_nil, Nat.zero_add] at this
      omega
    have hm : (s.heap.objs.size == sysModules) = false := beq_eq_false_iff_ne.mpr (Nat.ne_of_gt I.big)
    have new : ObjOk X.prog X.w (upd H s.heap.objs.size (.dT (putAll [] (ps.map fun p => (p.2.2.1, p.2.2.2))))) h' s.heap.objs.size (.dT (putAll [] (ps.map fun p => (p.2.2.1, p.2.2.2)))) :=
      ⟨hlen, hm, storedAllH [] qs, kt.keeps fun b ys e => by rw [upd_ne (ne_of_none e hn)]; exact e, o2, es, ep, g1, g2, g3, g4, g6⟩
    exact ⟨.ref s.heap.objs.size, _, I.laid (t' := tk) (fun b o e => hk' b o (by simp) e) (Nat.le_refl _) new, rfl, q _ hn⟩
end
end Lo

/-! own rules: list(zip(xs, ys)), tuple(zip(xs, ys)) -/
namespace Lo
open PySem PySem.Spec PyProof.Rows L2

/-! ### a zip whose first pair is still held -/
section
variable {prog : Program} {w : World} {A : Around} {E : Value → Shared → Prop} {s : Shared} {z TI TO i1 i2 T : Addr} {fp1 fp2 : List Addr} {n1 n2 i : Nat} {P1 P2 : Nat → Value → Prop} {St1 St2 : Nat → Heap → Prop} {f : Bool} {oT : Obj}
theorem zipH_item {Q : Option Value → Shared → Prop} (S : ZipSep2 z TI TO i1 i2 fp1 fp2) (D1 : Draws prog w A.in1 i1 fp1 n1 P1 St1) (D2 : Draws prog w A.in1 i2 fp2 n2 P2 St2)
    (hz : IsZipHeld s.heap z TI TO T f) (hT : s.heap.get? T = some oT) (hTI : IsTupOf2 s.heap TI (.ref i1) (.ref i2)) (st1 : St1 i s.heap) (st2 : St2 i s.heap) (l1 : i < n1) (l2 : i < n2)
    (hQ : ∀ x1 x2 h' tk, P1 i x1 → P2 i x2 → IsZipHeld h' z TI TO T true → St1 (i + 1) h' → St2 (i + 1) h' → IsTupOf2 h' s.heap.objs.size x1 x2 → h'.objs.size = s.heap.objs.size + 1 →
      (∀ c o, c ≠ z → c ≠ i1 → c ≠ i2 → s.heap.get? c = some o → h'.get? c = some o) → Q (some (.ref s.heap.objs.size)) { s with heap := h', toks := tk }) :
    wpAny (model prog w) A (pyNext (.ref z)) Q E s := by
  obtain ⟨hp, g, d, tk0, os⟩ := s
  have hTy : Shared.TypeIs ⟨hp, g, d, tk0, os⟩ (.ref z) "zip" := ⟨_, hz, rfl⟩
  unfold pyNext
  refine wpAny_bind (wpAny_attempt (wpAny_callSpecial?_slot (name := Str.ofString "__next__") hTy F.slot_zip_next (wpAny_call_entry F.slot_zip_next hTy F.entry_zip_next ?_ (F.args_zip_next_1 _))))
  show wpAny _ _ (field (.ref z) 2 >>= _) _ _ _
  refine wpAny_bind (wpAny_field hz rfl (x := .bool false) rfl ?_)
  show wpAny _ _ (field (.ref z) 3 >>= _) _ _ _
  refine wpAny_bind (wpAny_field hz rfl (x := .ref TI) rfl ?_)
  refine wpAny_bind (wpAny_seqItems hTI rfl ?_)
  show wpAny _ _ (Builtin.SmallTypes.ownedTupleIsFree (.ref z) >>= _) _ _ _
  refine wpAny_bind (wpAny_tupleHeld_zip (s := ⟨hp, g, d, tk0, os⟩) hz hT fun g0 hz0 hs0 => ?_)
  replace hs0 : Heap.SameBut z hp g0 := hs0
  simp only [Bool.false_eq_true, if_false]
  refine wpAny_bind ?_
  rw [← Array.forIn_toList]
  simp only [List.forIn_cons, List.forIn_nil]
  refine wpAny_bind (wpAny_bind (wpAny_holding ?_))
  show wpAny _ _ (Builtin.SmallTypes.nextOf (.ref i1) >>= _) _ _ ⟨g0, g, d, tk0, os⟩
  refine wpAny_bind (D1.item i ⟨g0, g, d, tk0, os⟩ _ _ l1 (D1.over st1 hs0 S.zf1) fun x1 p1 tk1 hx1 sn1 hp1 => wpAny_pure (wpAny_pure ?_))
  replace hp1 : Heap.SameBut i1 g0 p1 := hp1
  refine wpAny_bind (wpAny_bind (wpAny_holding ?_))
  show wpAny _ _ (Builtin.SmallTypes.nextOf (.ref i2) >>= _) _ _ ⟨p1, g, d, tk1, os⟩
  refine wpAny_bind (D2.item i ⟨p1, g, d, tk1, os⟩ _ _ l2 (D2.over (D2.over st2 hs0 S.zf2) hp1 S.sep1_2) fun x2 p2 tk2 hx2 sn2 hp2 => wpAny_pure (wpAny_pure (wpAny_pure ?_)))
  replace hp2 : Heap.SameBut i2 p1 p2 := hp2
  show wpAny _ _ (newTuple [x1, x2] >>= _) _ _ ⟨p2, g, d, tk2, os⟩
  refine wpAny_bind (wpAny_newTuple ?_)
  have hsz : p2.objs.size = hp.objs.size := by rw [hp2.1, hp1.1, hs0.1]
  have zz : IsZipHeld p2 z TI TO T true := hp2.extBut _ _ S.zi2 (hp1.extBut _ _ S.zi1 hz0)
  have hk : ∀ c o, c ≠ z → c ≠ i1 → c ≠ i2 → hp.get? c = some o → p2.get? c = some o := fun c o c1 c2 c3 e => hp2.extBut _ _ c3 (hp1.extBut _ _ c2 (hs0.extBut _ _ c1 e))
  have up : ∀ c o, p2.get? c = some o → (p2.push { cls := .type "tuple", data := .seq #[x1, x2] }).get? c = some o := fun c o e => Heap.get?_push_of_some _ e
  refine wpAny_pure ⟨_, rfl, ?_⟩
  have ht : IsTupOf2 (p2.push { cls := .type "tuple", data := .seq #[x1, x2] }) p2.objs.size x1 x2 := Heap.get?_push_size _ rfl
  have hz4 : (p2.push { cls := .type "tuple", data := .seq #[x1, x2] }).objs.size = p2.objs.size + 1 := Heap.size_push ..
  show wpAny _ _ (pure (some (Value.ref p2.objs.size))) _ _ _
  rw [hsz] at ht hz4 ⊢
  exact wpAny_pure (hQ x1 x2 _ tk2 hx1 hx2 (up _ _ zz) (D1.frame _ _ _ (D1.over sn1 hp2 S.sep2_1) fun c _ o e => up c o e) (D2.frame _ _ _ sn2 fun c _ o e => up c o e) ht hz4 fun c o c1 c2 c3 e => up c o (hk c o c1 c2 c3 e))
theorem zipH_end {Q : Option Value → Shared → Prop} (S : ZipSep2 z TI TO i1 i2 fp1 fp2) (D1 : Draws prog w A.in1 i1 fp1 n1 P1 St1) (D2 : Draws prog w A.in1 i2 fp2 n2 P2 St2)
    (hz : IsZipHeld s.heap z TI TO T f) (hT : s.heap.get? T = some oT) (hTI : IsTupOf2 s.heap TI (.ref i1) (.ref i2)) (st1 : St1 i s.heap) (st2 : St2 i s.heap) (l1 : i ≤ n1) (l2 : i ≤ n2) (he : i = n1 ∨ i = n2)
    (hQ : ∀ h' tk, (∀ c o, c ≠ z → c ≠ i1 → c ≠ i2 → s.heap.get? c = some o → h'.get? c = some o) → Q none { s with heap := h', toks := tk }) :
    wpAny (model prog w) A (pyNext (.ref z)) Q E s := by
  obtain ⟨hp, g, d, tk0, os⟩ := s
  have hTy : Shared.TypeIs ⟨hp, g, d, tk0, os⟩ (.ref z) "zip" := ⟨_, hz, rfl⟩
  unfold pyNext
  refine wpAny_bind (wpAny_attempt (wpAny_callSpecial?_slot (name := Str.ofString "__next__") hTy F.slot_zip_next (wpAny_call_entry F.slot_zip_next hTy F.entry_zip_next ?_ (F.args_zip_next_1 _))))
  show wpAny _ _ (field (.ref z) 2 >>= _) _ _ _
  refine wpAny_bind (wpAny_field hz rfl (x := .bool false) rfl ?_)
  show wpAny _ _ (field (.ref z) 3 >>= _) _ _ _
  refine wpAny_bind (wpAny_field hz rfl (x := .ref TI) rfl ?_)
  refine wpAny_bind (wpAny_seqItems hTI rfl ?_)
  show wpAny _ _ (Builtin.SmallTypes.ownedTupleIsFree (.ref z) >>= _) _ _ _
  refine wpAny_bind (wpAny_tupleHeld_zip (s := ⟨hp, g, d, tk0, os⟩) hz hT fun g0 hz0 hs0 => ?_)
  replace hs0 : Heap.SameBut z hp g0 := hs0
  simp only [Bool.false_eq_true, if_false]
  refine wpAny_bind ?_
  rw [← Array.forIn_toList]
  simp only [List.forIn_cons, List.forIn_nil]
  refine wpAny_bind (wpAny_bind (wpAny_holding ?_))
  show wpAny _ _ (Builtin.SmallTypes.nextOf (.ref i1) >>= _) _ _ ⟨g0, g, d, tk0, os⟩
  by_cases c1 : i < n1
  · refine wpAny_bind (D1.item i ⟨g0, g, d, tk0, os⟩ _ _ c1 (D1.over st1 hs0 S.zf1) fun x1 p1 tk1 hx1 sn1 hp1 => wpAny_pure (wpAny_pure ?_))
    replace hp1 : Heap.SameBut i1 g0 p1 := hp1
    have e2 : i = n2 := by omega
    refine wpAny_bind (wpAny_bind (wpAny_holding ?_))
    show wpAny _ _ (Builtin.SmallTypes.nextOf (.ref i2) >>= _) _ _ ⟨p1, g, d, tk1, os⟩
    refine wpAny_bind (D2.done ⟨p1, g, d, tk1, os⟩ _ _ (by rw [← e2]; exact D2.over (D2.over st2 hs0 S.zf2) hp1 S.sep1_2) fun q e hq he => ?_)
    replace hq : Heap.ExtBut i2 p1 q := hq
    obtain ⟨oe, hoe, hce⟩ := he
    refine wpAny_bind (wpAny_isInstance (T := "StopIteration") (b := true) ⟨oe, hoe, hce⟩ isSubtype_stop ?_)
    exact wpAny_pure (hQ _ _ fun c o k1 k2 k3 e => hq _ _ k3 (hp1.extBut _ _ k2 (hs0.extBut _ _ k1 e)))
  · have e1 : i = n1 := by omega
    refine wpAny_bind (D1.done ⟨g0, g, d, tk0, os⟩ _ _ (by rw [← e1]; exact D1.over st1 hs0 S.zf1) fun q e hq he => ?_)
    replace hq : Heap.ExtBut i1 g0 q := hq
    obtain ⟨oe, hoe, hce⟩ := he
    refine wpAny_bind (wpAny_isInstance (T := "StopIteration") (b := true) ⟨oe, hoe, hce⟩ isSubtype_stop ?_)
    exact wpAny_pure (hQ _ _ fun c o k1 k2 k3 e => hq _ _ k2 (hs0.extBut _ _ k1 e))
end

/-! ### what a zip gives, gathered in the list at S -/
structure Zc (S lo z TI TO i1 i2 a d : Addr) : Prop where
  sep : ZipSep2 z TI TO i1 i2 [i1, a] [i2, d]
  na : a ≠ i1
  nd : d ≠ i2
  zl : z < lo
  Tl : TI < lo
  Ol : TO < lo
  l1 : i1 < lo
  l2 : i2 < lo
  la : a < lo
  ld : d < lo
  Sl : S < lo
  Sz : S ≠ z
  ST : S ≠ TI
  SO : S ≠ TO
  S1 : S ≠ i1
  S2 : S ≠ i2
  Sa : S ≠ a
  Sd : S ≠ d
/-- the tuples made so far -/
def Made (xs ys : Array Value) (lo : Addr) (h : Heap) (as : List Addr) : Prop :=
  as.Pairwise (· < ·) ∧ (∀ k ∈ as, lo ≤ k) ∧ ∀ (j : Nat) (k : Addr), as[j]? = some k → ∃ x y, xs[j]? = some x ∧ ys[j]? = some y ∧ IsTupOf2 h k x y
theorem Made.at_ {xs ys : Array Value} {lo : Addr} {h h' : Heap} {as : List Addr} (m : Made xs ys lo h as) (k : ∀ b o, b ∈ as → h.get? b = some o → h'.get? b = some o) : Made xs ys lo h' as :=
  ⟨m.1, m.2.1, fun j b hj => let ⟨x, y, h1, h2, h3⟩ := m.2.2 j b hj; ⟨x, y, h1, h2, k b _ (List.mem_of_getElem? hj) h3⟩⟩
theorem Made.lt {xs ys : Array Value} {lo : Addr} {h : Heap} {as : List Addr} (m : Made xs ys lo h as) {k : Addr} (hk : k ∈ as) : k < h.objs.size := by
  obtain ⟨j, hj⟩ := List.getElem?_of_mem hk
  obtain ⟨_, _, _, _, e⟩ := m.2.2 j k hj
  exact Heap.lt_size e
structure Zf (b c : Bool) (lo z TI TO i1 i2 a d : Addr) (xs ys : Array Value) (i : Nat) (as : List Addr) (h : Heap) : Prop where
  ti : IsTupOf2 h TI (.ref i1) (.ref i2)
  s1 : ItB b h i1 a i ∧ ObB b h a xs
  s2 : ItB c h i2 d i ∧ ObB c h d ys
  len : as.length = i
  made : Made xs ys lo h as
  low : lo ≤ h.objs.size
  st : (i = 0 ∧ IsZip h z TI TO .none ∧ ∃ a1 a2, IsTupOf2 h TO a1 a2) ∨ ∃ T f, IsZipHeld h z TI TO T f ∧ T ∈ as
theorem ObB.at_ {b : Bool} {h h' : Heap} {a : Addr} {xs : Array Value} (x : ObB b h a xs) (e : ∀ o, h.get? a = some o → h'.get? a = some o) : ObB b h' a xs := by
  cases b with
  | false => exact Heap.IsList.at x e
  | true => exact Heap.IsTuple.at x e
section
variable {prog : Program} {w : World} {A : Around} {E : Value → Shared → Prop} {s : Shared} {b c : Bool} {S lo z TI TO i1 i2 a d : Addr} {xs ys : Array Value} {i : Nat} {as : List Addr}
theorem Zf.keep {h h' : Heap} (C : Zc S lo z TI TO i1 i2 a d) (Z : Zf b c lo z TI TO i1 i2 a d xs ys i as h) (k : ∀ b o, b ≠ S → h.get? b = some o → h'.get? b = some o) (hl : lo ≤ h'.objs.size) : Zf b c lo z TI TO i1 i2 a d xs ys i as h' := by
  have nS : ∀ k ∈ as, k ≠ S := fun k hk => Nat.ne_of_gt (Nat.lt_of_lt_of_le C.Sl (Z.made.2.1 k hk))
  refine ⟨k _ _ C.ST.symm Z.ti, ⟨Z.s1.1.at_ fun o e => k _ o C.S1.symm e, Z.s1.2.at_ fun o e => k _ o C.Sa.symm e⟩, ⟨Z.s2.1.at_ fun o e => k _ o C.S2.symm e, Z.s2.2.at_ fun o e => k _ o C.Sd.symm e⟩, Z.len, Z.made.at_ fun b o hb e => k b o (nS b hb) e, hl, ?_⟩
  rcases Z.st with ⟨e, h1, x, y, h2⟩ | ⟨T, f, h1, h2⟩
  · exact .inl ⟨e, k _ _ C.Sz.symm h1, x, y, k _ _ C.SO.symm h2⟩
  · exact .inr ⟨T, f, k _ _ C.Sz.symm h1, h2⟩
theorem Zf.item {Q : Option Value → Shared → Prop} (hh : A.handled = none) (C : Zc S lo z TI TO i1 i2 a d) (Z : Zf b c lo z TI TO i1 i2 a d xs ys i as s.heap) (l1 : i < xs.size) (l2 : i < ys.size)
    (hQ : ∀ h' tk, Zf b c lo z TI TO i1 i2 a d xs ys (i + 1) (as ++ [s.heap.objs.size]) h' → h'.objs.size = s.heap.objs.size + 1 → (∀ k o, k ∉ [z, TO, i1, i2] → s.heap.get? k = some o → h'.get? k = some o) → Q (some (.ref s.heap.objs.size)) { s with heap := h', toks := tk }) :
    wpAny (model prog w) A (pyNext (.ref z)) Q E s := by
  have D1 := draws_b (prog := prog) (w := w) (A := A.in1) (show A.in1.handled = none from hh) b i1 a C.na xs
  have D2 := draws_b (prog := prog) (w := w) (A := A.in1) (show A.in1.handled = none from hh) c i2 d C.nd ys
  have nx : ∀ k ∈ as, k ∉ [z, TO, i1, i2] := fun k hk hm => by
    have g := Z.made.2.1 k hk
    have q : k = z ∨ k = TO ∨ k = i1 ∨ k = i2 := by simpa using hm
    rcases q with q | q | q | q
    · exact absurd (Nat.lt_of_lt_of_le C.zl g) (by rw [q]; exact Nat.lt_irrefl _)
    · exact absurd (Nat.lt_of_lt_of_le C.Ol g) (by rw [q]; exact Nat.lt_irrefl _)
    · exact absurd (Nat.lt_of_lt_of_le C.l1 g) (by rw [q]; exact Nat.lt_irrefl _)
    · exact absurd (Nat.lt_of_lt_of_le C.l2 g) (by rw [q]; exact Nat.lt_irrefl _)
  have made : ∀ (h' : Heap) (x y : Value), xs[i]? = some x → ys[i]? = some y → IsTupOf2 h' s.heap.objs.size x y → (∀ k o, k ∉ [z, TO, i1, i2] → s.heap.get? k = some o → h'.get? k = some o) → Made xs ys lo h' (as ++ [s.heap.objs.size]) := fun h' x y hx hy ht hk => by
    refine ⟨List.pairwise_append.mpr ⟨Z.made.1, List.pairwise_singleton _ _, fun k hk2 q hq => ?_⟩, fun k hk2 => ?_, fun j k hj => ?_⟩
    · rw [List.mem_singleton.mp hq]; exact Z.made.lt hk2
    · rcases List.mem_append.mp hk2 with q | q
      · exact Z.made.2.1 k q
      · rw [List.mem_singleton.mp q]; exact Z.low
    · by_cases q : j < as.length
      · rw [List.getElem?_append_left q] at hj
        obtain ⟨x', y', g1, g2, g3⟩ := Z.made.2.2 j k hj
        exact ⟨x', y', g1, g2, hk _ _ (nx k (List.mem_of_getElem? hj)) g3⟩
      · rw [List.getElem?_append_right (by omega)] at hj
        have j0 : j - as.length = 0 := by
          by_cases z0 : j - as.length = 0
          · exact z0
          · rw [List.getElem?_eq_none (by simp; omega)] at hj; cases hj
        rw [j0] at hj
        have ek : s.heap.objs.size = k := by simpa using hj
        have ej : j = i := by have := Z.len; omega
        subst ek
        rw [ej]
        exact ⟨x, y, hx, hy, ht⟩
  have TIn : TI ∉ [z, TO, i1, i2] := by simp [C.sep.TIz, C.sep.TITO, C.sep.TIi1, C.sep.TIi2]
  rcases Z.st with ⟨e, hz, x0, y0, hTO⟩ | ⟨T, f, hz, hT⟩
  · refine wpAny_pyNext_zipD2_item C.sep D1 D2 hz Z.ti hTO Z.s1 Z.s2 l1 l2 fun x y h' tk hx hy hz' hTO' q1 q2 ht hsz hk => ?_
    have hk' : ∀ k o, k ∉ [z, TO, i1, i2] → s.heap.get? k = some o → h'.get? k = some o := fun k o hn e => by
      simp only [List.mem_cons, List.not_mem_nil, or_false, not_or] at hn
      exact hk k o hn.1 hn.2.1 hn.2.2.1 hn.2.2.2 e
    refine hQ h' tk ⟨hk' _ _ TIn Z.ti, q1, q2, ?_, made h' x y hx hy ht hk', ?_, .inr ⟨s.heap.objs.size, false, hz', by simp⟩⟩ hsz hk'
    · rw [List.length_append, Z.len]; rfl
    · rw [hsz]; exact Nat.le_succ_of_le Z.low
  · obtain ⟨j, hj⟩ := List.getElem?_of_mem hT
    obtain ⟨x', y', _, _, g3⟩ := Z.made.2.2 j T hj
    refine zipH_item C.sep D1 D2 hz g3 Z.ti Z.s1 Z.s2 l1 l2 fun x y h' tk hx hy hz' q1 q2 ht hsz hk => ?_
    have hk' : ∀ k o, k ∉ [z, TO, i1, i2] → s.heap.get? k = some o → h'.get? k = some o := fun k o hn e => by
      simp only [List.mem_cons, List.not_mem_nil, or_false, not_or] at hn
      exact hk k o hn.1 hn.2.2.1 hn.2.2.2 e
    refine hQ h' tk ⟨hk' _ _ TIn Z.ti, q1, q2, ?_, made h' x y hx hy ht hk', ?_, .inr ⟨T, true, hz', List.mem_append_left _ hT⟩⟩ hsz hk'
    · rw [List.length_append, Z.len]; rfl
    · rw [hsz]; exact Nat.le_succ_of_le Z.low
theorem Zf.done {Q : Option Value → Shared → Prop} (hh : A.handled = none) (C : Zc S lo z TI TO i1 i2 a d) (Z : Zf b c lo z TI TO i1 i2 a d xs ys i as s.heap) (e : i = min xs.size ys.size)
    (hQ : ∀ h' tk, Made xs ys lo h' as → (∀ k o, k ∉ [z, TO, i1, i2] → s.heap.get? k = some o → h'.get? k = some o) → Q none { s with heap := h', toks := tk }) :
    wpAny (model prog w) A (pyNext (.ref z)) Q E s := by
  have D1 := draws_b (prog := prog) (w := w) (A := A.in1) (show A.in1.handled = none from hh) b i1 a C.na xs
  have D2 := draws_b (prog := prog) (w := w) (A := A.in1) (show A.in1.handled = none from hh) c i2 d C.nd ys
  have nx : ∀ k ∈ as, k ∉ [z, TO, i1, i2] := fun k hk hm => by
    have g := Z.made.2.1 k hk
    have q : k = z ∨ k = TO ∨ k = i1 ∨ k = i2 := by simpa using hm
    rcases q with q | q | q | q
    · exact absurd (Nat.lt_of_lt_of_le C.zl g) (by rw [q]; exact Nat.lt_irrefl _)
    · exact absurd (Nat.lt_of_lt_of_le C.Ol g) (by rw [q]; exact Nat.lt_irrefl _)
    · exact absurd (Nat.lt_of_lt_of_le C.l1 g) (by rw [q]; exact Nat.lt_irrefl _)
    · exact absurd (Nat.lt_of_lt_of_le C.l2 g) (by rw [q]; exact Nat.lt_irrefl _)
  rcases Z.st with ⟨e0, hz, x0, y0, hTO⟩ | ⟨T, f, hz, hT⟩
  · refine wpAny_pyNext_zipD2_end C.sep D1 D2 hz Z.ti hTO Z.s1 Z.s2 (by omega) (by omega) (by omega) fun h' tk hk => ?_
    have hk' : ∀ k o, k ∉ [z, TO, i1, i2] → s.heap.get? k = some o → h'.get? k = some o := fun k o hn e => by
      simp only [List.mem_cons, List.not_mem_nil, or_false, not_or] at hn
      exact hk k o hn.1 hn.2.1 hn.2.2.1 hn.2.2.2 e
    exact hQ h' tk (Z.made.at_ fun k o hm e => hk' k o (nx k hm) e) hk'
  · obtain ⟨j, hj⟩ := List.getElem?_of_mem hT
    obtain ⟨x', y', _, _, g3⟩ := Z.made.2.2 j T hj
    refine zipH_end C.sep D1 D2 hz g3 Z.ti Z.s1 Z.s2 (by omega) (by omega) (by omega) fun h' tk hk => ?_
    have hk' : ∀ k o, k ∉ [z, TO, i1, i2] → s.heap.get? k = some o → h'.get? k = some o := fun k o hn e => by
      simp only [List.mem_cons, List.not_mem_nil, or_false, not_or] at hn
      exact hk k o hn.1 hn.2.2.1 hn.2.2.2 e
    exact hQ h' tk (Z.made.at_ fun k o hm e => hk' k o (nx k hm) e) hk'
/-- the loop of list.extend over a zip -/
theorem zl_loop {R : Result → Shared → Prop} (hh : A.handled = none) (C : Zc S lo z TI TO i1 i2 a d) (hn : min xs.size ys.size ≤ sizeLine) (res : Value) {h1 : Heap}
    (hR : ∀ h' tk acc cc as, (∀ k o, k ≠ S → k ∉ [z, TO, i1, i2] → h1.get? k = some o → h'.get? k = some o) → h'.get? S = some { cls := .type "list", dict := none, data := .seq acc cc, slots := #[] } → as.length = min xs.size ys.size →
      Made xs ys lo h' as → acc.toList = as.map Value.ref → R (.ok (.ret res)) { s with heap := h', toks := tk }) :
    ∀ (k i : Nat) (h : Heap) (tk cc : Nat) (acc : Array Value) (as : List Addr), min xs.size ys.size - i = k → i ≤ min xs.size ys.size → Zf b c lo z TI TO i1 i2 a d xs ys i as h → (∀ k o, k ≠ S → k ∉ [z, TO, i1, i2] → h1.get? k = some o → h.get? k = some o) →
      h.get? S = some { cls := .type "list", dict := none, data := .seq acc cc, slots := #[] } → acc.toList = as.map Value.ref →
      codeAny (model prog w) A (.builtin "list.extend.loop" ⟨[.ref S, .ref z, res], []⟩) R { s with heap := h, toks := tk } := by
  have Sn : S ∉ [z, TO, i1, i2] := by simp [C.Sz, C.SO, C.S1, C.S2]
  intro k
  induction k with
  | zero =>
    intro i h tk cc acc as hk hi Z keep hS hacc
    refine codeAny_builtin PySem.F.entry_extend_loop ?_
    rw [Around.under_plainId PySem.F.plain_extend_loop _]
    show wpAny _ A.in1 (pyNext (.ref z) >>= _) _ _ _
    refine wpAny_bind (Z.done (s := { s with heap := h, toks := tk }) (A := A.in1) (S := S) hh C (by omega) fun h' tk' hm he => ?_)
    have el : as.length = min xs.size ys.size := by rw [Z.len]; omega
    exact wpAny_pure (hR h' tk' acc cc as (fun b o q1 q2 e => he b o q2 (keep b o q1 q2 e)) (he S _ Sn hS) el hm hacc)
  | succ k ih =>
    intro i h tk cc acc as hk hi Z keep hS hacc
    have hsz : acc.size = i := by rw [← Array.length_toList, hacc, List.length_map, Z.len]
    refine codeAny_builtin PySem.F.entry_extend_loop ?_
    rw [Around.under_plainId PySem.F.plain_extend_loop _]
    show wpAny _ A.in1 (pyNext (.ref z) >>= _) _ _ _
    refine wpAny_bind (Z.item (s := { s with heap := h, toks := tk }) (A := A.in1) (S := S) hh C (by omega) (by omega) fun h' tk' Z' hz' hk' => ?_)
    have hS' := hk' S _ Sn hS
    have up : ∀ b o, b ≠ S → h'.get? b = some o → (h'.update S (Obj.mapSeq (·.push (Value.ref h.objs.size)))).get? b = some o := fun b o hb e => (Heap.get?_update_other _ _ (Ne.symm hb)).trans e
    have hsu : (h'.update S (Obj.mapSeq (·.push (Value.ref h.objs.size)))).objs.size = h'.objs.size := Heap.size_update ..
    show wpAny _ A.in1 (updateSeq S (·.push (Value.ref h.objs.size)) >>= _) _ _ _
    refine wpAny_bind ?_
    refine wpAny_updateSeq hS' rfl (wpAny_pure ⟨plainId_quiet PySem.F.plain_extend_loop _, ih (i + 1) _ tk' _ (acc.push (Value.ref h.objs.size)) (as ++ [h.objs.size]) (by omega) (by omega) (Z'.keep C up (by rw [hsu]; exact Z'.low))
      (fun b o q1 q2 e => up b o q1 (hk' b o q2 (keep b o q1 q2 e))) (Heap.get?_update_self _ hS' rfl) (by rw [Array.toList_push, hacc, List.map_append]; rfl)⟩) (by rw [hsz]; omega) (by show (acc.push (Value.ref h.objs.size)).size ≤ sizeLine + 1; rw [Array.size_push, hsz]; omega)
theorem zip_nolen : typeLookup (.type "zip") "__len__" = pure none := by rw [typeLookup_type, builtinLookup_eq_fast]; kernel_rfl
theorem zip_nohint : typeLookup (.type "zip") "__length_hint__" = pure none := by rw [typeLookup_type, builtinLookup_eq_fast]; kernel_rfl
/-- what stood before stands, the list at S besides -/
def Grown (s : Shared) (S z TO i1 i2 : Addr) (h' : Heap) : Prop := ∀ k o, k ≠ S → k ∉ [z, TO, i1, i2] → s.heap.get? k = some o → h'.get? k = some o
theorem zl_extend {R : Result → Shared → Prop} (hh : A.handled = none) (C : Zc S lo z TI TO i1 i2 a d) (hn : min xs.size ys.size ≤ sizeLine) (res : Value) (cc : Nat) (hS : s.heap.get? S = some { cls := .type "list", data := .seq #[] cc })
    (Z : Zf b c lo z TI TO i1 i2 a d xs ys 0 [] s.heap)
    (hR : ∀ h' tk acc cc as, Grown s S z TO i1 i2 h' → h'.get? S = some { cls := .type "list", dict := none, data := .seq acc cc, slots := #[] } → as.length = min xs.size ys.size →
      Made xs ys lo h' as → acc.toList = as.map Value.ref → R (.ok (.ret res)) { s with heap := h', toks := tk }) :
    wpAny (model prog w) A.in1 (Builtin.List.listExtendWith (.ref S) (.ref z) res)
      (fun fin s' => match fin with | .done f => R (.ok f) s' | .again c' => c'.quiet = true ∧ codeAny (model prog w) A c' R s') (fun e s' => R (.error e) s') s := by
  have hz : IsZip s.heap z TI TO .none := by
    rcases Z.st with ⟨_, h, _⟩ | ⟨T, _, _, h⟩
    · exact h
    · cases h
  have hT : s.TypeIs (.ref z) "zip" := ⟨_, hz, rfl⟩
  unfold Builtin.List.listExtendWith
  refine wpAny_bind (wpAny_typeOf hT ?_)
  have q1 : Builtin.List.listSameRef (.ref S) (.ref z) = false := by simp [Builtin.List.listSameRef, C.Sz]
  have q2 : (Value.type "zip" == Value.type "list") = false := by decide
  have q3 : (Value.type "zip" == Value.type "tuple") = false := by decide
  simp only [q1, q2, q3, Bool.or_false, Bool.false_eq_true, if_false]
  refine wpAny_bind (wpAny_pyIter_zip hz ?_)
  refine wpAny_bind (wpAny_holding ?_)
  unfold Builtin.List.listLengthHint
  refine wpAny_bind (wpAny_specialOf hT zip_nolen ?_)
  show wpAny _ A.in1 (specialOf (Value.ref z) (Str.ofString "__length_hint__") >>= _) _ _ _
  refine wpAny_bind (wpAny_specialOf hT zip_nohint (wpAny_pure ?_))
  show wpAny _ A.in1 (rule "list.extend.makes-room" >>= fun _ => Builtin.List.listTouch (.ref S) >>= fun _ => again (.builtin "list.extend.loop" ⟨[.ref S, .ref z, res], []⟩)) _ _ _
  refine wpAny_bind (wpAny_rule (wpAny_bind ?_))
  show wpAny _ A.in1 (updateSeq S (·.push .none) >>= fun _ => updateSeq S (·.pop)) _ _ _
  refine wpAny_bind (wpAny_updateSeq hS rfl ?_)
  have g2 := Heap.get?_update_self (Obj.mapSeq (·.push Value.none)) hS rfl
  refine wpAny_updateSeq (hz := by seq_fits) g2 rfl ?_
  have g3 := Heap.get?_update_self (Obj.mapSeq (·.pop)) g2 rfl
  have oth : ∀ k o, k ≠ S → s.heap.get? k = some o → ((s.heap.update S (Obj.mapSeq (·.push Value.none))).update S (Obj.mapSeq (·.pop))).get? k = some o :=
    fun k o hk e => (Heap.get?_update_other _ _ (Ne.symm hk)).trans ((Heap.get?_update_other _ _ (Ne.symm hk)).trans e)
  have low : lo ≤ ((s.heap.update S (Obj.mapSeq (·.push Value.none))).update S (Obj.mapSeq (·.pop))).objs.size := by
    rw [Heap.size_update, Heap.size_update]; exact Z.low
  refine wpAny_pure ⟨plainId_quiet PySem.F.plain_extend_loop _, zl_loop (s := s) (h1 := (s.heap.update S (Obj.mapSeq (·.push Value.none))).update S (Obj.mapSeq (·.pop))) hh C hn res (fun h' tk acc cc as hk => hR h' tk acc cc as fun k o q1 q2 e => hk k o q1 q2 (oth k o q1 e)) _ 0 _ _ _ _ [] rfl (Nat.zero_le _) (Z.keep C oth low) (fun _ _ _ _ e => e) g3 rfl⟩
/-- a zip just made -/
structure Zn (b c : Bool) (z TI TO i1 i2 a d : Addr) (xs ys : Array Value) (h : Heap) : Prop where
  sep : ZipSep2 z TI TO i1 i2 [i1, a] [i2, d]
  na : a ≠ i1
  nd : d ≠ i2
  hz : IsZip h z TI TO .none
  ti : IsTupOf2 h TI (.ref i1) (.ref i2)
  to : ∃ a1 a2, IsTupOf2 h TO a1 a2
  s1 : ItB b h i1 a 0 ∧ ObB b h a xs
  s2 : ItB c h i2 d 0 ∧ ObB c h d ys
theorem Zn.lts {h : Heap} (Z : Zn b c z TI TO i1 i2 a d xs ys h) : z < h.objs.size ∧ TI < h.objs.size ∧ TO < h.objs.size ∧ i1 < h.objs.size ∧ i2 < h.objs.size ∧ a < h.objs.size ∧ d < h.objs.size := by
  obtain ⟨a1, a2, q⟩ := Z.to
  obtain ⟨_, e1, _⟩ := Z.s1.1.ob
  obtain ⟨_, e2, _⟩ := Z.s2.1.ob
  exact ⟨Heap.lt_size Z.hz, Heap.lt_size Z.ti, Heap.lt_size q, Heap.lt_size e1, Heap.lt_size e2, Z.s1.2.lt, Z.s2.2.lt⟩
/-- with a new list behind it -/
theorem Zn.zc {h : Heap} (Z : Zn b c z TI TO i1 i2 a d xs ys h) : Zc h.objs.size (h.objs.size + 1) z TI TO i1 i2 a d := by
  obtain ⟨h1, h2, h3, h4, h5, h6, h7⟩ := Z.lts
  exact ⟨Z.sep, Z.na, Z.nd, Nat.lt_succ_of_lt h1, Nat.lt_succ_of_lt h2, Nat.lt_succ_of_lt h3, Nat.lt_succ_of_lt h4, Nat.lt_succ_of_lt h5, Nat.lt_succ_of_lt h6, Nat.lt_succ_of_lt h7, Nat.lt_succ_self _,
    Nat.ne_of_gt h1, Nat.ne_of_gt h2, Nat.ne_of_gt h3, Nat.ne_of_gt h4, Nat.ne_of_gt h5, Nat.ne_of_gt h6, Nat.ne_of_gt h7⟩
theorem Zn.zf {h h' : Heap} (Z : Zn b c z TI TO i1 i2 a d xs ys h) (k : ∀ b o, h.get? b = some o → h'.get? b = some o) (hl : h.objs.size + 1 ≤ h'.objs.size) : Zf b c (h.objs.size + 1) z TI TO i1 i2 a d xs ys 0 [] h' := by
  obtain ⟨a1, a2, q⟩ := Z.to
  exact ⟨k _ _ Z.ti, ⟨Z.s1.1.at_ fun o e => k _ o e, Z.s1.2.at_ fun o e => k _ o e⟩, ⟨Z.s2.1.at_ fun o e => k _ o e, Z.s2.2.at_ fun o e => k _ o e⟩, rfl, ⟨List.Pairwise.nil, (fun _ h => nomatch h), (fun j k h => by simp at h)⟩, hl, .inl ⟨rfl, k _ _ Z.hz, a1, a2, k _ _ q⟩⟩
/-- list(z) -/
theorem call_list_zip {Q : Value → Shared → Prop} (hh : A.handled = none) (Z : Zn b c z TI TO i1 i2 a d xs ys s.heap) (hn : min xs.size ys.size ≤ sizeLine)
    (hQ : ∀ h' tk acc cc as, (∀ k o, k ∉ [z, TO, i1, i2] → s.heap.get? k = some o → h'.get? k = some o) → h'.get? s.heap.objs.size = some { cls := .type "list", dict := none, data := .seq acc cc, slots := #[] } → as.length = min xs.size ys.size →
      Made xs ys (s.heap.objs.size + 1) h' as → acc.toList = as.map Value.ref → Q (.ref s.heap.objs.size) { s with heap := h', toks := tk }) :
    wpAny (model prog w) A (call (.type "list") [.ref z]) Q E s := by
  refine callType_codes (Q₁ := fun obj s₁ => obj = .ref s.heap.objs.size ∧ s₁ = { s with heap := s.heap.push { cls := .type "list", data := .seq #[] } }) PySem.F.called_list (PySem.F.typeCall_list_1 _) PySem.F.entry_list_init
    (code_list_new _ ⟨rfl, rfl⟩) fun obj s₁ h₁ => ?_
  obtain ⟨rfl, rfl⟩ := h₁
  have hS : (s.heap.push { cls := .type "list", data := .seq #[] }).get? s.heap.objs.size = some { cls := .type "list", data := .seq #[] } := Heap.get?_push_size _ rfl
  refine ⟨⟨_, hS, rfl⟩, PySem.F.args_list_init_2 _ _, ?_⟩
  show wpAny _ A.in1.in1 (do let old ← Builtin.List.listItems (.ref s.heap.objs.size); Builtin.List.listUpdate (.ref s.heap.objs.size) (fun _ => #[]); letGo old.toList.reverse; Builtin.List.listExtendWith (.ref s.heap.objs.size) (.ref z) .none) _ _ _
  refine wpAny_bind ?_
  unfold Builtin.List.listItems
  refine wpAny_bind (wpAny_seqItems hS rfl (wpAny_pure ?_))
  show wpAny _ _ (updateSeq s.heap.objs.size (fun _ => #[]) >>= fun _ => letGo (#[] : Array Value).toList.reverse >>= fun _ => Builtin.List.listExtendWith (.ref s.heap.objs.size) (.ref z) .none) _ _ _
  refine wpAny_bind (wpAny_updateSeq hS rfl ?_)
  have g2 := Heap.get?_update_self (Obj.mapSeq (fun _ => (#[] : Array Value))) hS rfl
  have oth : ∀ k o, s.heap.get? k = some o → ((s.heap.push { cls := .type "list", data := .seq #[] }).update s.heap.objs.size (Obj.mapSeq (fun _ => (#[] : Array Value)))).get? k = some o :=
    fun k o e => (Heap.get?_update_other _ _ (Nat.ne_of_gt (Heap.lt_size e))).trans (Heap.get?_push_of_some _ e)
  refine wpAny_bind (wpAny_letGo ?_)
  refine zl_extend (A := A.in1) hh Z.zc hn .none _ g2 (Z.zf oth (by show _ ≤ (Heap.update _ _ _).objs.size; rw [Heap.size_update, Heap.size_push]; exact Nat.le_refl _)) fun h' tk acc cc as hk hS' hl hm hacc => ?_
  exact ⟨rfl, hQ h' tk acc cc as (fun k o q e => hk k o (Nat.ne_of_lt (Heap.lt_size e)) q (oth k o e)) hS' hl hm hacc⟩
/-- what tuple(z) gathers -/
theorem collect_zip {R : List Value → Shared → Prop} (hh : A.handled = none) (Z : Zn b c z TI TO i1 i2 a d xs ys s.heap) (hn : min xs.size ys.size ≤ sizeLine)
    (hR : ∀ h' tk as, (∀ k o, k ∉ [z, TO, i1, i2] → s.heap.get? k = some o → h'.get? k = some o) → as.length = min xs.size ys.size → Made xs ys (s.heap.objs.size + 1) h' as → R (as.map Value.ref) { s with heap := h', toks := tk }) :
    wpAny (model prog w) A (collect (.ref z)) R E s := by
  unfold collect
  refine wpAny_bind (wpAny_runValue (codeAny_builtin entry_proto_collect' ?_))
  rw [Around.under_plainId PySem.F.plain_proto_collect _]
  show wpAny _ A.in1 (newList [] >>= fun l => again (.builtin "list.__iadd__" ⟨[l, .ref z], []⟩)) _ _ s
  refine wpAny_bind (wpAny_newObj_type ?_)
  refine wpAny_pure ⟨plainId_quiet PySem.F.plain_list_iadd _, codeAny_builtin entry_list_iadd' ?_⟩
  rw [Around.under_plainId PySem.F.plain_list_iadd _]
  have hS : (s.heap.push { cls := .type "list", data := .seq ([] : List Value).toArray }).get? s.heap.objs.size = some { cls := .type "list", data := .seq #[] } := Heap.get?_push_size _ rfl
  show wpAny _ A.in1 (Builtin.List.listExtendWith (.ref s.heap.objs.size) (.ref z) (.ref s.heap.objs.size)) _ _ _
  have key := zl_extend (prog := prog) (w := w) (A := A) (s := { s with heap := s.heap.push { cls := .type "list", data := .seq ([] : List Value).toArray } })
    (R := fun (q : Result) (s' : Shared) => ∃ (h' : Heap) (tk : Nat) (acc' : Array Value) (c' : Nat) (as : List Addr), q = .ok (.ret (.ref s.heap.objs.size)) ∧ s' = { s with heap := h', toks := tk } ∧
      (∀ k o, k ∉ [z, TO, i1, i2] → s.heap.get? k = some o → h'.get? k = some o) ∧ h'.get? s.heap.objs.size = some { cls := .type "list", dict := none, data := .seq acc' c', slots := #[] } ∧ as.length = min xs.size ys.size ∧ Made xs ys (s.heap.objs.size + 1) h' as ∧ acc'.toList = as.map Value.ref)
    hh Z.zc hn (.ref s.heap.objs.size) 0 hS (Z.zf (fun k o e => Heap.get?_push_of_some _ e) (by rw [Heap.size_push]; exact Nat.le_refl _))
    (fun h' tk acc' c' as hk hS' hl hm hacc => ⟨h', tk, acc', c', as, rfl, rfl, fun k o q e => hk k o (Nat.ne_of_lt (Heap.lt_size e)) q (Heap.get?_push_of_some _ e), hS', hl, hm, hacc⟩)
  refine wpAny_mono key (fun fin s' x => ?_) fun e s' x => ?_
  · cases fin with
    | done f =>
      obtain ⟨h', tk, acc', c', as, e, rfl, hk, hS', hl, hm, hacc⟩ := x
      cases e
      show wpAny _ A (load s.heap.objs.size >>= _) _ _ _
      refine wpAny_bind (wpAny_load hS' (wpAny_pure ?_))
      show R acc'.toList _
      rw [hacc]
      exact hR h' tk as hk hl hm
    | again c₁ =>
      refine ⟨x.1, codeAny_mono x.2 fun q s₂ y => ?_⟩
      obtain ⟨h', tk, acc', c', as, rfl, rfl, hk, hS', hl, hm, hacc⟩ := y
      show wpAny _ A (load s.heap.objs.size >>= _) _ _ _
      refine wpAny_bind (wpAny_load hS' (wpAny_pure ?_))
      show R acc'.toList _
      rw [hacc]
      exact hR h' tk as hk hl hm
  · obtain ⟨_, _, _, _, _, e', _⟩ := x
    cases e'
theorem code_tuple_zip {Q₁ : Value → Shared → Prop} (hh : A.handled = none) (Z : Zn b c z TI TO i1 i2 a d xs ys s.heap) (hn : min xs.size ys.size ≤ sizeLine)
    (h : ∀ h' tk as, (∀ k o, k ∉ [z, TO, i1, i2] → s.heap.get? k = some o → h'.get? k = some o) → as.length = min xs.size ys.size → Made xs ys (s.heap.objs.size + 1) h' as →
      Q₁ (.ref h'.objs.size) { s with heap := h'.push { cls := .type "tuple", data := .seq (as.map Value.ref).toArray }, toks := tk }) :
    codeAny (model prog w) A (.call (.builtin "tuple.__new__") ⟨[.type "tuple", .ref z], []⟩) (wants Q₁ E) s := by
  refine codeAny_of_tree ?_
  show wpAny _ A.in1 (do checkBuiltinCall "tuple.__new__" ⟨[.type "tuple", .ref z], []⟩; again (.builtin "tuple.__new__" ⟨[.type "tuple", .ref z], []⟩)) _ _ s
  refine wpAny_bind (wpAny_of_eq (PySem.F.newCall_tuple_1 _) (wpAny_pure ⟨plainId_quiet PySem.F.plain_tuple_new _, codeAny_builtin PySem.F.entry_tuple_new ?_⟩))
  rw [Around.under_plainId PySem.F.plain_tuple_new _]
  have f1 := sub_tuple_self
  have f2 := init_tuple_lookup
  have f3 := madeHere_tuple
  have f4 : s.TypeIs (.ref z) "zip" := ⟨_, Z.hz, rfl⟩
  have f5 : A.in1.handled = none := hh
  wp_walk using wpAny_typeOf f4, collect_zip (A := A.in1) f5 Z hn
  intro h' tk as hk hl hm
  show wpAny _ _ (Builtin.Tuple.tupleExact (as.map Value.ref).toArray >>= fun v => ret v) _ _ _
  unfold Builtin.Tuple.tupleExact
  refine wpAny_bind (wpAny_newObj_type ?_ (by show (as.map Value.ref).toArray.size ≤ sizeLine; rw [List.size_toArray, List.length_map, hl]; exact hn))
  exact wpAny_pure (h h' tk as hk hl hm)
/-- tuple(z) -/
theorem call_tuple_zip {Q : Value → Shared → Prop} (hh : A.handled = none) (Z : Zn b c z TI TO i1 i2 a d xs ys s.heap) (hn : min xs.size ys.size ≤ sizeLine)
    (hQ : ∀ h' tk as, (∀ k o, k ∉ [z, TO, i1, i2] → s.heap.get? k = some o → h'.get? k = some o) → as.length = min xs.size ys.size → Made xs ys (s.heap.objs.size + 1) h' as →
      Q (.ref h'.objs.size) { s with heap := h'.push { cls := .type "tuple", data := .seq (as.map Value.ref).toArray }, toks := tk }) :
    wpAny (model prog w) A (call (.type "tuple") [.ref z]) Q E s := by
  refine callType_codes (Q₁ := fun obj s₁ => s₁.TypeIs obj "tuple" ∧ Q obj s₁) PySem.F.called_tuple (PySem.F.typeCall_tuple_1 _) PySem.F.entry_object_init
    (code_tuple_zip (A := A.in1) hh Z hn fun h' tk as hk hl hm => ⟨⟨_, Heap.get?_push_size _ rfl, rfl⟩, hQ h' tk as hk hl hm⟩) fun obj s₁ h₁ => ?_
  exact ⟨h₁.1, PySem.F.args_object_init_2 obj _, object_init_meets PySem.F.called_tuple.init.lookup PySem.F.called_tuple.made (by decide) prog w A.in1 _ s₁ ⟨h₁.1, rfl, h₁.2⟩⟩
end
end Lo

namespace Lo
open PySem PySem.Spec PyProof.Rows L2
/-! ### several new objects are tracked at once -/
theorem lay_many {X : Cx} {pins : List (Addr × Obj)} {σ : L2.St} {H H' : Hp} {s : Shared} {h' : Heap} {tk : Nat} (I : Inv X pins σ H s) (hk : ∀ b o, s.heap.get? b = some o → h'.get? b = some o) (kp : ∀ b o, H b = some o → H' b = some o)
    (off : ∀ b, b < s.heap.objs.size → H' b = H b) (new : ∀ b u, s.heap.objs.size ≤ b → H' b = some u → ObjOk X.prog X.w H' h' b u) : Inv X pins σ H' { s with heap := h', toks := tk } := by
  refine I.call' (ch := []) rfl ⟨fun b o q _ _ _ => hk b o q, fun b o q _ _ _ => ⟨o.slots, hk b o q⟩, fun b o q n _ => ?_, fun b o q _ => ⟨o, hk b o q⟩, fun b xs q => kp b _ q, fun b o u q => kp b _ q, fun b ps q => ⟨#[], by rw [kp b _ q]; simp⟩⟩ (fun b u q => ?_) I.bare fun b z => by simp at z
  · rw [off b (Heap.lt_size q)]; exact n
  · by_cases hb : b < s.heap.objs.size
    · rw [off b hb] at q
      exact (I.hok b u q).stay (fun d v _ y => hk d v y) (fun d y => kp d _ y) fun d xs y => kp d _ y
    · exact new b u (Nat.le_of_not_lt hb) q
/-- pairs laid at their addresses -/
def putP : Hp → List (Addr × V × V) → Hp
  | H, [] => H
  | H, p :: ps => upd (putP H ps) p.1 (.tup [p.2.1, p.2.2])
theorem putP_off {b : Addr} {H : Hp} : ∀ {ps : List (Addr × V × V)}, b ∉ ps.map (·.1) → putP H ps b = H b
  | [], _ => rfl
  | p :: ps, h => by
    rw [List.map_cons, List.mem_cons, not_or] at h
    show upd (putP H ps) p.1 _ b = H b
    rw [upd_ne h.1, putP_off h.2]
theorem putP_at {H : Hp} : ∀ {ps : List (Addr × V × V)} {p : Addr × V × V}, (ps.map (·.1)).Nodup → p ∈ ps → putP H ps p.1 = some (.tup [p.2.1, p.2.2])
  | q :: ps, p, hn, hp => by
    rw [List.map_cons, List.nodup_cons] at hn
    show upd (putP H ps) q.1 _ p.1 = _
    rcases List.mem_cons.mp hp with e | e
    · rw [e, upd_same]
    · have ne : p.1 ≠ q.1 := fun z => hn.1 (by rw [← z]; exact List.mem_map_of_mem e)
      rw [upd_ne ne]
      exact putP_at hn.2 e
theorem putP_of {H : Hp} {b : Addr} {u : HO} : ∀ {ps : List (Addr × V × V)}, putP H ps b = some u → H b = some u ∨ ∃ p ∈ ps, p.1 = b ∧ u = .tup [p.2.1, p.2.2]
  | [], h => .inl h
  | p :: ps, h => by
    by_cases e : b = p.1
    · have h : upd (putP H ps) p.1 (.tup [p.2.1, p.2.2]) b = some u := h
      rw [e, upd_same] at h
      exact .inr ⟨p, List.mem_cons_self, e.symm, (Option.some.inj h).symm⟩
    · have h : upd (putP H ps) p.1 (.tup [p.2.1, p.2.2]) b = some u := h
      rw [upd_ne e] at h
      rcases putP_of h with q | ⟨q, h1, h2⟩
      · exact .inl q
      · exact .inr ⟨q, List.mem_cons_of_mem _ h1, h2⟩
/-- a new object p (a list, a tuple: wr) of new pairs -/
def zipped (wr : List V → HO) (xs ys : List V) (H : Hp) (Q : VK) : Prop := ∀ (H' : Hp) (p : Addr) (ts : List Addr), (∀ b o, H b = some o → H' b = some o) → H p = none → (∀ t ∈ ts, H t = none) → ts.length = min xs.length ys.length →
  H' p = some (wr (ts.map V.ref)) → (∀ (j : Nat) t x y, ts[j]? = some t → xs[j]? = some x → ys[j]? = some y → H' t = some (.tup [x, y])) → Q (.ref p) H'
def tZipV (wr : List V → HO) (b c : Bool) (K : PySem.W.Frag) (ta : TA) : TE := fun σ H Q => ta σ H fun vs H1 => ∃ a d xs ys, vs = [.ref a, .ref d] ∧ SqB b K H1 a xs ∧ SqB c K H1 d ys ∧ zipped wr xs ys H1 Q
theorem refs_vals : ∀ as : List Addr, Vals (as.map V.ref) (as.map Value.ref)
  | [] => .nil
  | _ :: as => .cons rfl (refs_vals as)
section
variable {X : Cx} {e e2 : Expr} {ta : TA} {p p2 pos pos2 : Pos}
theorem zip_fin {pins : List (Addr × Obj)} {σ : L2.St} {H : Hp} {s : Shared} {Q : VK} {h' : Heap} {tk : Nat} {xs ys : List V} {its its2 : List Value} {lo S : Addr} {as : List Addr} {wr : List V → HO} (I : Inv X pins σ H s) (rx : Vals xs its) (ry : Vals ys its2)
    (hk : ∀ b o, s.heap.get? b = some o → h'.get? b = some o) (hlo : s.heap.objs.size ≤ lo) (hS : s.heap.objs.size ≤ S) (hSn : S ∉ as) (hl : as.length = min its.toArray.size its2.toArray.size) (hm : Made its.toArray its2.toArray lo h' as)
    (hw : ∀ H', ObjOk X.prog X.w H' h' S (wr (as.map V.ref))) (q : zipped wr xs ys H Q) : EP X pins σ Q (.ref S) { s with heap := h', toks := tk } := by
  have lx := rx.length
  have ly := ry.length
  rw [List.size_toArray, List.size_toArray] at hl
  have nd : as.Nodup := List.Pairwise.imp (fun {a b} (h : a < b) => Nat.ne_of_lt h) hm.1
  have fr : ∀ t ∈ as, H t = none := fun t ht => I.hok.fresh (Nat.le_trans hlo (hm.2.1 t ht))
  have frS : H S = none := I.hok.fresh hS
  have hps : (as.zip (xs.zip ys)).map (·.1) = as := by
    rw [List.map_fst_zip]
    rw [List.length_zip]; omega
  have off : ∀ b, b ∉ as → b ≠ S → upd (putP H (as.zip (xs.zip ys))) S (wr (as.map V.ref)) b = H b := fun b h1 h2 => by
    rw [upd_ne h2, putP_off (by rw [hps]; exact h1)]
  have kp : ∀ b o, H b = some o → upd (putP H (as.zip (xs.zip ys))) S (wr (as.map V.ref)) b = some o := fun b o e => by
    rw [off b (fun z => by rw [fr b z] at e; cases e) (fun z => by rw [z, frS] at e; cases e)]
    exact e
  have atj : ∀ (j : Nat) t x y, as[j]? = some t → xs[j]? = some x → ys[j]? = some y → upd (putP H (as.zip (xs.zip ys))) S (wr (as.map V.ref)) t = some (.tup [x, y]) := fun j t x y h1 h2 h3 => by
    have ht := List.mem_of_getElem? h1
    rw [upd_ne (fun z => hSn (by rw [← z]; exact ht))]
    have hz : (as.zip (xs.zip ys))[j]? = some (t, x, y) := by
      rw [List.getElem?_zip_eq_some]
      refine ⟨h1, ?_⟩
      rw [List.getElem?_zip_eq_some]
      exact ⟨h2, h3⟩
    exact putP_at (p := (t, x, y)) (by rw [hps]; exact nd) (List.mem_of_getElem? hz)
  refine ⟨.ref S, _, lay_many (tk := tk) I hk kp (fun b hb => off b (fun z => absurd (Nat.lt_of_lt_of_le hb (Nat.le_trans hlo (hm.2.1 b z))) (Nat.lt_irrefl _)) (Nat.ne_of_lt (Nat.lt_of_lt_of_le hb hS))) (fun b u hb e => ?_), rfl, q _ S as kp frS fr (by omega) upd_same atj⟩
  by_cases z : b = S
  · rw [z, upd_same] at e
    cases e
    rw [z]
    exact hw _
  · rw [upd_ne z] at e
    rcases putP_of e with e1 | ⟨r, h1, h2, h3⟩
    · rw [I.hok.fresh hb] at e1; cases e1
    · subst h3
      obtain ⟨j, hj⟩ := List.getElem?_of_mem h1
      rw [List.getElem?_zip_eq_some] at hj
      obtain ⟨j1, j2⟩ := hj
      rw [List.getElem?_zip_eq_some] at j2
      obtain ⟨x', y', m1, m2, m3⟩ := hm.2.2 j r.1 j1
      obtain ⟨u1, g1, g2⟩ := rx.get j2.1
      obtain ⟨u2, g3, g4⟩ := ry.get j2.2
      have e1 : x' = u1 := by
        have : its[j]? = some x' := by simpa using m1
        rw [g1] at this; exact (Option.some.inj this).symm
      have e2 : y' = u2 := by
        have : its2[j]? = some y' := by simpa using m2
        rw [g3] at this; exact (Option.some.inj this).symm
      subst e1 e2
      rw [← h2]
      exact ⟨by show 2 ≤ sizeLine; decide, [x', y'], .cons g2 (.cons g4 .nil), ⟨_, m3, rfl, _, rfl⟩⟩
theorem zn_new {b c : Bool} {h' : Heap} {n a d : Addr} {xs ys : Array Value} (h1 : a < n) (h2 : d < n) (hz : IsZip h' (n + 4) (n + 2) (n + 3) .none) (ti : IsTupOf2 h' (n + 2) (.ref n) (.ref (n + 1))) (to : IsTupOf2 h' (n + 3) .none .none) (g1 : h'.get? n = some (itO b a)) (g2 : h'.get? (n + 1) = some (itO c d))
    (o1 : ObB b h' a xs) (o2 : ObB c h' d ys) : Zn b c (n + 4) (n + 2) (n + 3) n (n + 1) a d xs ys h' :=
  ⟨sep2_new h1 h2, Nat.ne_of_lt h1, Nat.ne_of_lt (Nat.lt_succ_of_lt h2), hz, ti, ⟨_, _, to⟩, ⟨itB_new g1, o1⟩, ⟨itB_new g2, o2⟩⟩
theorem new_off {n k : Addr} (h : k < n) : k ∉ [n + 4, n + 3, n, n + 1] := by
  simp only [List.mem_cons, List.not_mem_nil, or_false, not_or]
  exact ⟨Nat.ne_of_lt (Nat.lt_of_lt_of_le h (Nat.le_add_right _ _)), Nat.ne_of_lt (Nat.lt_of_lt_of_le h (Nat.le_add_right _ _)), Nat.ne_of_lt h, Nat.ne_of_lt (Nat.lt_of_lt_of_le h (Nat.le_add_right _ _))⟩
/-- list(zip(xs, ys)) -/
theorem pe_listZip (b c : Bool) (hc : X.calm = true) (hg : Gl X "list") (hm : X.mg "list" = none) (hg2 : Gl X "zip") (hm2 : X.mg "zip" = none) (ha : PA X [e, e2] ta)
    (hs : starEach [e, e2] X.env = (false, eval e X.env) :: starEach [e2] X.env := by rfl) (hpl : (backTo pos2 (starEach [e2] X.env)).any (·.1) = false := by rfl) :
    PE X (.Call (.Name "list" p) [.Call (.Name "zip" p2) [e, e2] [] pos2] [] pos) (tZipV .lst b c X.K ta) := by
  refine ⟨fun pins s σ H Q I h => ?_⟩
  refine Call_ (ld_blt I hg hm PyProof.Rows.boot_list ?_)
  refine PyProof.Rows.callWith_type1 (PyProof.Rows.args_cons ?_ rfl) rfl rfl
  refine Call_ (ld_blt I hg2 hm2 PyProof.Rows.boot_zip (PyProof.Rows.callWith_type1 (thn (ha.run pos2 pins s σ H _ I h) fun us s1 ⟨vs, H1, I1, r1, q1⟩ => ?_) hs hpl))
  obtain ⟨a, d, xs, ys, rfl, hqx, hqy, q⟩ := q1
  have eu : us = [Value.ref a, Value.ref d] := by
    cases r1 with
    | cons r rr =>
      cases rr with
      | cons r' rr => cases rr; cases r; cases r'; rfl
  subst eu
  obtain ⟨its, rv, o1, hz1⟩ := sq_b I1 hqx
  obtain ⟨its2, rv2, o2, hz2⟩ := sq_b I1 hqy
  refine zip_begins2 (begins_b b a its.toArray) (begins_b c d its2.toArray) o1 o2 fun h' hz hTI hTO h1 h2 hsz hk => PyProof.Rows.args_nil ?_
  have Z := zn_new (b := b) (c := c) o1.lt o2.lt hz hTI hTO h1 h2 (o1.at_ fun o e => hk _ o e) (o2.at_ fun o e => hk _ o e)
  have lx := rv.length
  refine call_list_zip (s := { s1 with heap := h' }) (I.ok.hd hc) Z (by rw [List.size_toArray, ← lx]; omega) fun h2' tk acc cc as hk2 hS hl hm hacc => ?_
  have lo : s1.heap.objs.size ≤ h'.objs.size := by rw [hsz]; exact Nat.le_add_right _ _
  refine zip_fin (s := s1) (wr := .lst) (S := h'.objs.size) I1 rv rv2 (fun k o e => hk2 k o (new_off (Heap.lt_size e)) (hk k o e)) (Nat.le_succ_of_le lo) lo (fun hm' => absurd (hm.2.1 _ hm') (Nat.not_succ_le_self _)) hl hm (fun H' => ?_) q
  refine ⟨?_, acc.toList, cc, by rw [hacc]; exact refs_vals as, ?_⟩
  · rw [List.length_map, hl, List.size_toArray, List.size_toArray, ← lx]; omega
  · rw [Array.toArray_toList]; exact hS
/-- tuple(zip(xs, ys)) -/
theorem pe_tupZip (b c : Bool) (hc : X.calm = true) (hg : Gl X "tuple") (hm : X.mg "tuple" = none) (hg2 : Gl X "zip") (hm2 : X.mg "zip" = none) (ha : PA X [e, e2] ta)
    (hs : starEach [e, e2] X.env = (false, eval e X.env) :: starEach [e2] X.env := by rfl) (hpl : (backTo pos2 (starEach [e2] X.env)).any (·.1) = false := by rfl) :
    PE X (.Call (.Name "tuple" p) [.Call (.Name "zip" p2) [e, e2] [] pos2] [] pos) (tZipV .tup b c X.K ta) := by
  refine ⟨fun pins s σ H Q I h => ?_⟩
  refine Call_ (ld_blt I hg hm PyProof.Rows.boot_tuple ?_)
  refine PyProof.Rows.callWith_type1 (PyProof.Rows.args_cons ?_ rfl) rfl rfl
  refine Call_ (ld_blt I hg2 hm2 PyProof.Rows.boot_zip (PyProof.Rows.callWith_type1 (thn (ha.run pos2 pins s σ H _ I h) fun us s1 ⟨vs, H1, I1, r1, q1⟩ => ?_) hs hpl))
  obtain ⟨a, d, xs, ys, rfl, hqx, hqy, q⟩ := q1
  have eu : us = [Value.ref a, Value.ref d] := by
    cases r1 with
    | cons r rr =>
      cases rr with
      | cons r' rr => cases rr; cases r; cases r'; rfl
  subst eu
  obtain ⟨its, rv, o1, hz1⟩ := sq_b I1 hqx
  obtain ⟨its2, rv2, o2, hz2⟩ := sq_b I1 hqy
  refine zip_begins2 (begins_b b a its.toArray) (begins_b c d its2.toArray) o1 o2 fun h' hz hTI hTO h1 h2 hsz hk => PyProof.Rows.args_nil ?_
  have Z := zn_new (b := b) (c := c) o1.lt o2.lt hz hTI hTO h1 h2 (o1.at_ fun o e => hk _ o e) (o2.at_ fun o e => hk _ o e)
  have lx := rv.length
  refine call_tuple_zip (s := { s1 with heap := h' }) (I.ok.hd hc) Z (by rw [List.size_toArray, ← lx]; omega) fun h2' tk as hk2 hl hm => ?_
  have lo : s1.heap.objs.size ≤ h'.objs.size := by rw [hsz]; exact Nat.le_add_right _ _
  have low2 : s1.heap.objs.size ≤ h2'.objs.size := by
    have : ∃ o, h2'.get? (s1.heap.objs.size + 2) = some o := ⟨_, hk2 (s1.heap.objs.size + 2) _ (by simp only [List.mem_cons, List.not_mem_nil, or_false, not_or]; exact ⟨fun e => absurd (Nat.add_left_cancel e) (by decide), fun e => absurd (Nat.add_left_cancel e) (by decide), Nat.ne_of_gt (Nat.lt_add_of_pos_right (by decide)), fun e => absurd (Nat.add_left_cancel e) (by decide)⟩) hTI⟩
    obtain ⟨o, e⟩ := this
    exact Nat.le_of_lt (Nat.lt_of_le_of_lt (Nat.le_add_right _ _) (Heap.lt_size e))
  refine zip_fin (s := s1) (wr := .tup) (S := h2'.objs.size) (lo := h'.objs.size + 1) I1 rv rv2 (fun k o e => Heap.get?_push_of_some _ (hk2 k o (new_off (Heap.lt_size e)) (hk k o e))) (Nat.le_succ_of_le lo) low2 (fun hm' => absurd (hm.lt hm') (Nat.lt_irrefl _)) hl (hm.at_ fun k o _ e => Heap.get?_push_of_some _ e) (fun H' => ?_) q
  refine ⟨?_, as.map Value.ref, refs_vals as, IsTup.new _ _⟩
  rw [List.length_map, hl, List.size_toArray, List.size_toArray, ← lx]; omega
end
end Lo

namespace Lo
open PySem PySem.Spec PyProof.Rows L2
/-! ### the text -/
def topS (i : Nat) : Stmt := PySem.Challenge.pw_lampsaloft_k27_whole_many_carriers.main.body.getD i (.Pass ⟨0, 0, 0, 0⟩)
/-- the def st of the name x stands in the module -/
def Has (K : PySem.W.Frag) (mg : Str → Option Value) (x : Str) (st : Stmt) (ps : List Str) : Prop := ∃ (f : Addr) (fd : FuncData), Fun K x x st f fd ∧ Binds K fd ps [] ∧ mg x = some (.ref f)
/-- the def x keeps the promise sp -/
def Kept (P : Program) (w : World) (K : PySem.W.Frag) (mg : Str → Option Value) (base : Heap) (k : Nat) (x : Str) (ps : List Str) (sp : Sp) : Prop :=
  ∃ (f : Addr) (fd : FuncData), FnOk P w K mg base CX0 k f fd ps sp ∧ mg x = some (.ref f) ∧ PySem.W.keepIn K (.ref f) = true ∧ Binds K fd ps []
theorem Has.kept {P : Program} {w : World} {K : PySem.W.Frag} {mg : Str → Option Value} {base : Heap} {k : Nat} {x : Str} {st : Stmt} {ps : List Str} {sp : Sp} (h : Has K mg x st ps) (ok : ∀ f fd, Fun K x x st f fd → FnOk P w K mg base CX0 k f fd ps sp) : Kept P w K mg base k x ps sp :=
  let ⟨f, fd, F, b, g⟩ := h
  ⟨f, fd, ok f fd F, g, F.kp, b⟩
theorem pcall {X : Cx} {k : Nat} {x : Str} {ps : List Str} {sp : Sp} {p pos : Pos} {e : Expr} {es : List Expr} {t : TA} (G : Kept X.prog X.w X.K X.mg X.base k x ps sp) (hr : Room k X.A) (hg : Gl X x) (ha : PA X (e :: es) t)
    (hdb : (x == ("__debug__" : Str)) = false := by decide) (he : starEach (e :: es) X.env = (false, eval e X.env) :: starEach es X.env := by rfl) (hpl : (backTo pos (starEach es X.env)).any (·.1) = false := by rfl) :
    PE X (.Call (.Name x p) (e :: es) [] pos) (tCall sp [] E0 t) := by
  obtain ⟨f, fd, F, hm, hk, hb⟩ := G
  exact pe_call F hr hg hm hk hb .nil pass0 ha hdb he hpl
/-- a tested expression, by its value -/
theorem spl {vs : List V} {sp : Sp} {H : Hp} {Q : VK} (h : sp vs H Q E0) : sp (vs ++ []) H Q E0 := by rw [List.append_nil]; exact h

/-! ### heaps -/
theorem same_new {H : Hp} {p : Addr} {o : HO} (h : H p = none) : Same H (upd H p o) := fun b u e => by
  rw [upd_ne (ne_of_none e h)]
  exact e
/-- a store at what is not in the older heap -/
theorem same_at {H0 H : Hp} {p : Addr} {o : HO} (s : Same H0 H) (h : H0 p = none) : Same H0 (upd H p o) := fun b u e => by
  rw [upd_ne (ne_of_none e h)]
  exact s _ _ e
theorem ne_new {H : Hp} {a p : Addr} {o : HO} (h : H a = some o) (hp : H p = none) : a ≠ p := ne_of_none h hp
theorem same_none {H H' : Hp} (s : Same H H') {p : Addr} (h : H' p = none) : H p = none := s.free h
/-- all tuples are as they were -/
def Tk (H H' : Hp) : Prop := ∀ a xs, H a = some (.tup xs) → H' a = some (.tup xs)
theorem stk {H H' : Hp} (s : Same H H') : Tk H H' := fun a xs h => s a _ h
theorem Tk.trans {H H1 H2 : Hp} (a : Tk H H1) (b : Tk H1 H2) : Tk H H2 := fun c xs h => b c xs (a c xs h)
theorem Tk.refl (H : Hp) : Tk H H := fun _ _ h => h
theorem tk_lst {H : Hp} {p : Addr} {xs : List V} {o : HO} (h : H p = some (.lst xs)) : Tk H (upd H p o) := fun a ys e => by
  rw [upd_ne (ne_of e h (by intro z; cases z))]
  exact e
theorem tk_new {H : Hp} {p : Addr} {o : HO} (h : H p = none) : Tk H (upd H p o) := stk (same_new h)
theorem SqT.at_ {K : PySem.W.Frag} {H : Hp} {a : Addr} {xs : List V} (h : H a = some (.tup xs)) : SqT K H a xs := .inl (.inl h)
theorem SqL.at_ {K : PySem.W.Frag} {H : Hp} {a : Addr} {xs : List V} (h : H a = some (.lst xs)) : SqL K H a xs := .inl (.inl h)
theorem lineN {n : Nat} (h : n ≤ 10000) : n ≤ sizeLine := Nat.le_trans h (by decide)
theorem lineL {n : Nat} (h : n ≤ 10000) : n < sizeLine := Nat.lt_of_le_of_lt h (by decide)

/-! ### the data -/
abbrev Col := Int × Int
/-- item by item -/
def Seq {α : Type} (R : V → α → Prop) (vs : List V) (xs : List α) : Prop := vs.length = xs.length ∧ ∀ (i : Nat) v x, vs[i]? = some v → xs[i]? = some x → R v x
theorem Seq.mono {α : Type} {R R' : V → α → Prop} {vs : List V} {xs : List α} (h : Seq R vs xs) (k : ∀ v x, R v x → R' v x) : Seq R' vs xs := ⟨h.1, fun i v x a b => k v x (h.2 i v x a b)⟩
theorem Seq.nil {α : Type} {R : V → α → Prop} : Seq R [] ([] : List α) := ⟨rfl, fun i v x h => by simp at h⟩
theorem Seq.snoc {α : Type} {R : V → α → Prop} {vs : List V} {xs : List α} {v : V} {x : α} (h : Seq R vs xs) (r : R v x) : Seq R (vs ++ [v]) (xs ++ [x]) := by
  refine ⟨by simp [h.1], fun i u y e1 e2 => ?_⟩
  by_cases q : i < vs.length
  · rw [List.getElem?_append_left q] at e1
    rw [List.getElem?_append_left (by rw [← h.1]; exact q)] at e2
    exact h.2 i u y e1 e2
  · rw [List.getElem?_append_right (by omega)] at e1
    rw [List.getElem?_append_right (by rw [← h.1]; omega), ← h.1] at e2
    have z : i - vs.length = 0 := by
      by_cases z : i - vs.length = 0
      · exact z
      · rw [List.getElem?_eq_none (by simp; omega)] at e1; cases e1
    rw [z] at e1 e2
    have a : v = u := by simpa using e1
    have b : x = y := by simpa using e2
    rw [← a, ← b]; exact r
theorem Seq.get {α : Type} {R : V → α → Prop} {vs : List V} {xs : List α} (h : Seq R vs xs) {i : Nat} {x : α} (e : xs[i]? = some x) : ∃ v, vs[i]? = some v ∧ R v x := by
  obtain ⟨l, _⟩ := List.getElem?_eq_some_iff.mp e
  have l' : i < vs.length := by rw [h.1]; exact l
  exact ⟨vs[i], List.getElem?_eq_getElem l', h.2 i _ x (List.getElem?_eq_getElem l') e⟩
theorem Seq.get' {α : Type} {R : V → α → Prop} {vs : List V} {xs : List α} (h : Seq R vs xs) {i : Nat} {v : V} (e : vs[i]? = some v) : ∃ x, xs[i]? = some x ∧ R v x := by
  obtain ⟨l, _⟩ := List.getElem?_eq_some_iff.mp e
  have l' : i < xs.length := by rw [← h.1]; exact l
  exact ⟨xs[i], List.getElem?_eq_getElem l', h.2 i v _ e (List.getElem?_eq_getElem l')⟩
theorem Seq.append {α : Type} {R : V → α → Prop} {vs us : List V} {xs ys : List α} (h : Seq R vs xs) (k : Seq R us ys) : Seq R (vs ++ us) (xs ++ ys) := by
  refine ⟨by simp [h.1, k.1], fun i u y e1 e2 => ?_⟩
  by_cases q : i < vs.length
  · rw [List.getElem?_append_left q] at e1
    rw [List.getElem?_append_left (by rw [← h.1]; exact q)] at e2
    exact h.2 i u y e1 e2
  · rw [List.getElem?_append_right (by omega)] at e1
    rw [List.getElem?_append_right (by rw [← h.1]; omega), ← h.1] at e2
    exact k.2 _ u y e1 e2
theorem Seq.set {α : Type} {R : V → α → Prop} {vs : List V} {xs : List α} {v : V} {x : α} (h : Seq R vs xs) (r : R v x) (j : Nat) : Seq R (vs.set j v) (xs.set j x) := by
  refine ⟨by simp [h.1], fun i u y e1 e2 => ?_⟩
  rw [List.getElem?_set] at e1 e2
  by_cases q : j = i
  · subst q
    rw [if_pos rfl] at e1 e2
    by_cases l : j < vs.length
    · rw [if_pos l] at e1
      rw [if_pos (by rw [← h.1]; exact l)] at e2
      cases e1; cases e2; exact r
    · rw [if_neg l] at e1; cases e1
  · rw [if_neg q] at e1 e2
    exact h.2 i u y e1 e2
theorem Seq.take {α : Type} {R : V → α → Prop} {vs : List V} {xs : List α} (h : Seq R vs xs) (n : Nat) : Seq R (vs.take n) (xs.take n) := by
  refine ⟨by simp [h.1], fun i u y e1 e2 => ?_⟩
  rw [List.getElem?_take] at e1 e2
  by_cases q : i < n
  · rw [if_pos q] at e1 e2; exact h.2 i u y e1 e2
  · rw [if_neg q] at e1; cases e1
theorem Seq.drop {α : Type} {R : V → α → Prop} {vs : List V} {xs : List α} (h : Seq R vs xs) (n : Nat) : Seq R (vs.drop n) (xs.drop n) := by
  refine ⟨by simp [h.1], fun i u y e1 e2 => ?_⟩
  rw [List.getElem?_drop] at e1 e2
  exact h.2 _ u y e1 e2
/-- a column, a leg, a tuple of such -/
def CV (H : Hp) (v : V) (c : Col) : Prop := ∃ a, v = .ref a ∧ H a = some (.tup [.int c.1, .int c.2])
def LV (H : Hp) (v : V) (l : Col × Col) : Prop := ∃ a x y, v = .ref a ∧ H a = some (.tup [x, y]) ∧ CV H x l.1 ∧ CV H y l.2
def TV {α : Type} (R : Hp → V → α → Prop) (H : Hp) (v : V) (xs : List α) : Prop := ∃ a vs, v = .ref a ∧ H a = some (.tup vs) ∧ Seq (R H) vs xs
theorem CV.mono {H H' : Hp} (k : Tk H H') {v : V} {c : Col} (h : CV H v c) : CV H' v c := let ⟨a, e, h⟩ := h; ⟨a, e, k _ _ h⟩
theorem LV.mono {H H' : Hp} (k : Tk H H') {v : V} {l : Col × Col} (h : LV H v l) : LV H' v l := let ⟨a, x, y, e, h1, h2, h3⟩ := h; ⟨a, x, y, e, k _ _ h1, h2.mono k, h3.mono k⟩
theorem TV.mono {α : Type} {R : Hp → V → α → Prop} (hR : ∀ {H H' : Hp}, Tk H H' → ∀ {v : V} {x : α}, R H v x → R H' v x) {H H' : Hp} (k : Tk H H') {v : V} {xs : List α} (h : TV R H v xs) : TV R H' v xs :=
  let ⟨a, vs, e, h1, h2⟩ := h; ⟨a, vs, e, k _ _ h1, h2.mono fun _ _ r => hR k r⟩
abbrev Cols (H : Hp) (v : V) (xs : List Col) : Prop := TV CV H v xs
abbrev Legs (H : Hp) (v : V) (xs : List (Col × Col)) : Prop := TV LV H v xs
theorem Cols.mono {H H' : Hp} (k : Tk H H') {v : V} {xs : List Col} (h : Cols H v xs) : Cols H' v xs := TV.mono (R := CV) (fun k _ _ => CV.mono k) k h
theorem Legs.mono {H H' : Hp} (k : Tk H H') {v : V} {xs : List (Col × Col)} (h : Legs H v xs) : Legs H' v xs := TV.mono (R := LV) (fun k _ _ => LV.mono k) k h
/-- the squared distance -/
def sqd (a b : Col) : Int := (b.1 - a.1) * (b.1 - a.1) + (b.2 - a.2) * (b.2 - a.2)
/-- near enough to be reckoned with -/
def Bc (c : Col) : Prop := (-1000 ≤ c.1 ∧ c.1 ≤ 1000) ∧ -1000 ≤ c.2 ∧ c.2 ≤ 1000
theorem sq_bd {d : Int} (h1 : -2000 ≤ d) (h2 : d ≤ 2000) : 0 ≤ d * d ∧ d * d ≤ 4000000 := by
  have e : d * d = ((d.natAbs * d.natAbs : Nat) : Int) := by rw [Int.natCast_mul, Int.natAbs_mul_self']
  have l : d.natAbs ≤ 2000 := by omega
  have m : d.natAbs * d.natAbs ≤ 2000 * 2000 := Nat.mul_le_mul l l
  rw [e]
  omega
theorem sqd_bd {a b : Col} (ha : Bc a) (hb : Bc b) : 0 ≤ sqd a b ∧ sqd a b ≤ 8000000 := by
  obtain ⟨⟨a1, a2⟩, a3, a4⟩ := ha
  obtain ⟨⟨b1, b2⟩, b3, b4⟩ := hb
  have x := sq_bd (d := b.1 - a.1) (by omega) (by omega)
  have y := sq_bd (d := b.2 - a.2) (by omega) (by omega)
  unfold sqd
  omega
theorem at0 {α : Type} (x : α) (r : List α) : atI (x :: r) 0 = some x := atI_nat (j := 0) rfl
theorem at1 {α : Type} (x y : α) (r : List α) : atI (x :: y :: r) 1 = some y := atI_nat (j := 1) rfl
theorem at2 {α : Type} (x y z : α) (r : List α) : atI (x :: y :: z :: r) 2 = some z := atI_nat (j := 2) rfl
/-- the names of the built-ins that stand for themselves -/
structure Bl (mg : Str → Option Value) : Prop where
  sum : mg "sum" = none
  len : mg "len" = none
  max : mg "max" = none
  min : mg "min" = none
  tuple : mg "tuple" = none
  list : mg "list" = none
  dict : mg "dict" = none
  set : mg "set" = none
  zip : mg "zip" = none
  enumerate : mg "enumerate" = none
  range : mg "range" = none
  int : mg "int" = none
  abs : mg "abs" = none
  isinstance : mg "isinstance" = none
  bool : mg "bool" = none
end Lo

namespace Lo
open PySem PySem.Spec PyProof.Rows L2
/-! ### columns compared, sought -/
theorem hu65 {k : Nat} {A : Around} (r : Room k A) : A.units + 65 < cLine := by have := r.un; omega
section
variable {X : Cx} {pins : List (Addr × Obj)} {σ : L2.St} {H : Hp} {s : Shared}
theorem holds_c (I : Inv X pins σ H s) {v : V} {u : Value} {c : Col} (h : CV H v c) (r : RelV v u) : PySem.W.Holds s.heap u (c : Int × Int) := by
  obtain ⟨a, rfl, h⟩ := h
  cases r
  exact pair_raw (i := c.1) (j := c.2) I (SqT.at_ h)
theorem Seq.uncons {α : Type} {R : V → α → Prop} {v : V} {vs : List V} {x : α} {xs : List α} (h : Seq R (v :: vs) (x :: xs)) : R v x ∧ Seq R vs xs :=
  ⟨h.2 0 v x rfl rfl, by have := h.1; simpa using this, fun i u y a b => h.2 (i + 1) u y a b⟩
theorem Seq.cons {α : Type} {R : V → α → Prop} {v : V} {vs : List V} {x : α} {xs : List α} (r : R v x) (h : Seq R vs xs) : Seq R (v :: vs) (x :: xs) := by
  refine ⟨by simp [h.1], fun i u y a b => ?_⟩
  cases i with
  | zero => cases a; cases b; exact r
  | succ i => exact h.2 i u y a b
theorem holds_cs (I : Inv X pins σ H s) : ∀ {vs : List V} {us : List Value} {cs : List Col}, Seq (CV H) vs cs → Vals vs us → PySem.W.HoldAll s.heap us (cs : List (Int × Int))
  | [], _, [], _, .nil => PySem.W.HoldAll.nil
  | [], _, _ :: _, h, _ => by have := h.1; simp at this
  | _ :: _, _, [], h, _ => by have := h.1; simp at this
  | v :: vs, _, c :: cs, h, .cons r t => PySem.W.HoldAll.cons (holds_c I h.uncons.1 r) (holds_cs I h.uncons.2 t)
end
section
variable {X : Cx}
theorem dec_of {p : Prop} (i : Decidable p) : (@decide p i = true) ↔ p := ⟨fun h => @of_decide_eq_true p i h, fun h => @decide_eq_true p i h⟩
theorem depC : PySem.W.Datum.depth Col ≤ 3 := by decide
/-- a column among columns, in a list (false) or a tuple (true) -/
def rInC (b : Bool) (K : PySem.W.Frag) : R2 := fun x y H Q => ∃ (c : Col) (cs : List Col) (a : Addr) (vs : List V), CV H x c ∧ y = .ref a ∧ SqB b K H a vs ∧ Seq (CV H) vs cs ∧ ∀ r : Bool, (r = true ↔ c ∈ cs) → Q (.bl r) H
def rNotInC (b : Bool) (K : PySem.W.Frag) : R2 := fun x y H Q => ∃ (c : Col) (cs : List Col) (a : Addr) (vs : List V), CV H x c ∧ y = .ref a ∧ SqB b K H a vs ∧ Seq (CV H) vs cs ∧ ∀ r : Bool, (r = true ↔ c ∉ cs) → Q (.bl r) H
theorem op_inC (b : Bool) (hu : X.A.units + 65 < cLine) : OpR X (compareOp .In) (rInC b X.K) := by
  intro pins s σ H x y v u Q I rx ry h
  obtain ⟨c, cs, a, vs, hc, rfl, hq, hs, q⟩ := h
  cases ry
  obtain ⟨its, rv, ob, _⟩ := sq_b I hq
  have hd := depC
  cases b with
  | false => exact PySem.W.in_list_datum (vs := its.toArray) ob (holds_cs I hs rv) (holds_c I hc rx) (by omega) ⟨.bl _, H, I, rfl, q _ (dec_of _)⟩
  | true => exact PySem.W.in_tuple_datum (vs := its.toArray) ob (holds_cs I hs rv) (holds_c I hc rx) (by omega) ⟨.bl _, H, I, rfl, q _ (dec_of _)⟩
theorem op_notInC (b : Bool) (hu : X.A.units + 65 < cLine) : OpR X (compareOp .NotIn) (rNotInC b X.K) := by
  intro pins s σ H x y v u Q I rx ry h
  obtain ⟨c, cs, a, vs, hc, rfl, hq, hs, q⟩ := h
  cases ry
  obtain ⟨its, rv, ob, _⟩ := sq_b I hq
  have hd := depC
  cases b with
  | false => exact PySem.W.notIn_list_datum (vs := its.toArray) ob (holds_cs I hs rv) (holds_c I hc rx) (by omega) ⟨.bl _, H, I, rfl, q _ (dec_of _)⟩
  | true => exact PySem.W.notIn_tuple_datum (vs := its.toArray) ob (holds_cs I hs rv) (holds_c I hc rx) (by omega) ⟨.bl _, H, I, rfl, q _ (dec_of _)⟩
def rNeC : R2 := fun x y H Q => ∃ (a b : Col), CV H x a ∧ CV H y b ∧ ∀ r : Bool, (r = true ↔ a ≠ b) → Q (.bl r) H
theorem op_neC (hu : X.A.units + 65 < cLine) : OpR X (compareOp .NotEq) rNeC := by
  intro pins s σ H x y v u Q I rx ry h
  obtain ⟨a, b, ha, hb, q⟩ := h
  have hd := depC
  exact PySem.W.ne_datum (holds_c I ha rx) (holds_c I hb ry) (by omega) ⟨.bl _, H, I, rfl, q _ (dec_of _)⟩
/-- the readings by the frame's constants, for use in a block -/
theorem ixT (K : PySem.W.Frag) (h : X.K = K) : IxR X (rIxT K) := by subst h; exact ix_tup
theorem ixL (K : PySem.W.Frag) (h : X.K = K) : IxR X (rIxL K) := by subst h; exact ix_list
theorem inC (b : Bool) (K : PySem.W.Frag) (h : X.K = K) (hu : X.A.units + 65 < cLine) : OpR X (compareOp .In) (rInC b K) := by subst h; exact op_inC b hu
theorem notInC (b : Bool) (K : PySem.W.Frag) (h : X.K = K) (hu : X.A.units + 65 < cLine) : OpR X (compareOp .NotIn) (rNotInC b K) := by subst h; exact op_notInC b hu
end
theorem ifB {r : Bool} {a b : Prop} (ht : r = true → a) (hf : r = false → b) : if r = true then a else b := by
  cases r with
  | true => exact ht rfl
  | false => exact hf rfl
/-- a comprehension that leaves the older heap as it was -/
theorem lcT {J : It} {n : Nat} {G : Hp → Prop} {Y : Nat → Hp → V → Hp → Prop} (w : Walk J n G Y) {g : TG} {tt : TT} {te : TE} {vs : List Nat} {σ : L2.St} {H1 : Hp} {D : Addr} {Qd : Hp → Prop} (Iv : Nat → List V → Hp → Prop) (hn : n ≤ 10000) (hD : H1 D = none)
    (mono : ∀ i acc H H', Tk H H' → Iv i acc H → Iv i acc H') (h0 : Iv 0 [] H1) (hG : ∀ H, Same H1 H → G H)
    (hs : ∀ i x H H' acc, i < n → Same H1 H → Iv i acc H → Y i H x H' → ∀ (Ky : V → Hp → Prop) (Kn : Hp → Prop), (∀ y H4, Same H H4 → Iv (i + 1) (acc ++ [y]) H4 → Ky y H4) → (∀ H3, Same H H3 → Iv (i + 1) acc H3 → Kn H3) →
      g x (wipe σ vs) H' fun σ2 H2 => wipe σ2 vs = wipe σ vs ∧ tt σ2 H2 fun b H3 => if b = true then te σ2 H3 Ky else Kn H3)
    (hd : ∀ H acc, Same H1 H → H D = some (.lst acc) → acc.length ≤ n → Iv n acc H → Qd H) :
    ∃ W : Nat → Nat → Hp → Prop, (∃ m, W 0 m (upd H1 D (.lst []))) ∧ ∀ i m H, W i m H →
      (J.stop i H ∧ Qd H) ∨ (J.go i H ∧ ∃ Nx : Hp → Prop, (∀ H', Nx H' → ∃ m', m' < m ∧ W (i + 1) m' H') ∧ ∀ x H', J.yld i H x H' → g x (wipe σ vs) H' fun σ2 H2 => wipe σ2 vs = wipe σ vs ∧ tt σ2 H2 fun b H3 =>
        if b = true then te σ2 H3 fun y H4 => ∃ acc, H4 D = some (.lst acc) ∧ acc.length < sizeLine ∧ Nx (upd H4 D (.lst (acc ++ [y]))) else Nx H3) := by
  refine lc_it w (fun i H => ∃ acc, Same H1 H ∧ H D = some (.lst acc) ∧ acc.length ≤ i ∧ Iv i acc H) ⟨[], same_new hD, upd_same, Nat.zero_le _, mono _ _ _ _ (tk_new hD) h0⟩ (fun i H _ ⟨acc, s, _⟩ => hG H s) ?_ (fun H ⟨acc, s, d, l, v⟩ => hd H acc s d l v)
  rintro i x H H' hi ⟨acc, s, d, l, v⟩ y
  refine hs i x H H' acc hi s v y _ _ (fun y H4 s4 v4 => ⟨acc, s4 _ _ d, lineL (by omega), acc ++ [y], same_at (s.trans s4) hD, upd_same, ?_, mono _ _ _ _ (tk_lst (s4 _ _ d)) v4⟩) (fun H3 s3 v3 => ⟨acc, s.trans s3, s3 _ _ d, by omega, v3⟩)
  rw [List.length_append]; simp; exact l
/-- the heap without D -/
def del (H : Hp) (D : Addr) : Hp := fun a => if a = D then none else H a
theorem del_ne {H : Hp} {D a : Addr} (h : a ≠ D) : del H D a = H a := if_neg h
theorem del_same {H H' : Hp} {D : Addr} (s : Same H H') : Same (del H D) (del H' D) := fun b u e => by
  unfold del at e ⊢
  by_cases q : b = D
  · rw [if_pos q] at e; cases e
  · rw [if_neg q] at e ⊢; exact s _ _ e
theorem del_to {H : Hp} {D : Addr} : Same (del H D) H := fun b u e => by
  unfold del at e
  by_cases q : b = D
  · rw [if_pos q] at e; cases e
  · rw [if_neg q] at e; exact e
theorem del_upd {H : Hp} {D : Addr} {o : HO} : del (upd H D o) D = del H D := by
  funext a
  unfold del
  by_cases q : a = D
  · rw [if_pos q, if_pos q]
  · rw [if_neg q, if_neg q, upd_ne q]
theorem del_none {H : Hp} {D : Addr} (h : H D = none) : Same H (del H D) := fun b u e => by
  rw [del_ne (ne_of_none e h)]; exact e
/-- a comprehension that leaves the older heap as it was; what is held of the new ones is held beside the list -/
theorem lcS {J : It} {n : Nat} {G : Hp → Prop} {Y : Nat → Hp → V → Hp → Prop} (w : Walk J n G Y) {g : TG} {tt : TT} {te : TE} {vs : List Nat} {σ : L2.St} {H1 : Hp} {D : Addr} {Qd : Hp → Prop} (Iv : Nat → List V → Hp → Prop) (hn : n ≤ 10000) (hD : H1 D = none)
    (mono : ∀ i acc H H', Same H H' → Iv i acc H → Iv i acc H') (h0 : Iv 0 [] H1) (hG : ∀ H, Same H1 H → G H)
    (hs : ∀ i x H H' acc, i < n → Same H1 H → H D = some (.lst acc) → Iv i acc (del H D) → Y i H x H' → ∀ (Ky : V → Hp → Prop) (Kn : Hp → Prop), (∀ y H4, Same H H4 → Iv (i + 1) (acc ++ [y]) (del H4 D) → Ky y H4) → (∀ H3, Same H H3 → Iv (i + 1) acc (del H3 D) → Kn H3) →
      g x (wipe σ vs) H' fun σ2 H2 => wipe σ2 vs = wipe σ vs ∧ tt σ2 H2 fun b H3 => if b = true then te σ2 H3 Ky else Kn H3)
    (hd : ∀ H acc, Same H1 H → H D = some (.lst acc) → acc.length ≤ n → Iv n acc (del H D) → Qd H) :
    ∃ W : Nat → Nat → Hp → Prop, (∃ m, W 0 m (upd H1 D (.lst []))) ∧ ∀ i m H, W i m H →
      (J.stop i H ∧ Qd H) ∨ (J.go i H ∧ ∃ Nx : Hp → Prop, (∀ H', Nx H' → ∃ m', m' < m ∧ W (i + 1) m' H') ∧ ∀ x H', J.yld i H x H' → g x (wipe σ vs) H' fun σ2 H2 => wipe σ2 vs = wipe σ vs ∧ tt σ2 H2 fun b H3 =>
        if b = true then te σ2 H3 fun y H4 => ∃ acc, H4 D = some (.lst acc) ∧ acc.length < sizeLine ∧ Nx (upd H4 D (.lst (acc ++ [y]))) else Nx H3) := by
  refine lc_it w (fun i H => ∃ acc, Same H1 H ∧ H D = some (.lst acc) ∧ acc.length ≤ i ∧ Iv i acc (del H D)) ⟨[], same_new hD, upd_same, Nat.zero_le _, ?_⟩ (fun i H _ ⟨acc, s, _⟩ => hG H s) ?_ (fun H ⟨acc, s, d, l, v⟩ => hd H acc s d l v)
  · rw [del_upd]
    exact mono _ _ _ _ (del_none hD) h0
  rintro i x H H' hi ⟨acc, s, d, l, v⟩ y
  refine hs i x H H' acc hi s d v y _ _ (fun y H4 s4 v4 => ⟨acc, s4 _ _ d, lineL (by omega), acc ++ [y], same_at (s.trans s4) hD, upd_same, ?_, by rw [del_upd]; exact v4⟩) (fun H3 s3 v3 => ⟨acc, s.trans s3, s3 _ _ d, by omega, v3⟩)
  rw [List.length_append]; simp; exact l
/-- the greatest, nothing below nought -/
def mx : List Int → Int
  | [] => 0
  | a :: l => max a (mx l)
theorem mx_nn : ∀ l : List Int, 0 ≤ mx l
  | [] => Int.le_refl _
  | a :: l => by have := mx_nn l; unfold mx; omega
theorem mx_le : ∀ {l : List Int} {y : Int}, y ∈ (0 : Int) :: l → y ≤ mx l
  | [], y, h => by rcases List.mem_cons.mp h with h | h; · rw [h]; exact Int.le_refl _
                   · cases h
  | a :: l, y, h => by
    have z := mx_nn l
    unfold mx
    rcases List.mem_cons.mp h with h | h
    · omega
    rcases List.mem_cons.mp h with h | h
    · omega
    have := mx_le (l := l) (List.mem_cons_of_mem 0 h)
    omega
theorem mx_mem : ∀ {l : List Int}, mx l ∈ (0 : Int) :: l
  | [] => List.mem_cons_self
  | a :: l => by
    have i := mx_mem (l := l)
    unfold mx
    by_cases q : a ≤ mx l
    · rw [show max a (mx l) = mx l by omega]
      rcases List.mem_cons.mp i with h | h
      · rw [h]; exact List.mem_cons_self
      · exact List.mem_cons_of_mem _ (List.mem_cons_of_mem _ h)
    · rw [show max a (mx l) = a by omega]
      exact List.mem_cons_of_mem _ List.mem_cons_self
theorem mx_eq {l : List Int} {m : Int} (h : m ∈ (0 : Int) :: l) (k : ∀ y ∈ (0 : Int) :: l, y ≤ m) : m = mx l := by
  have a := mx_le h
  have b := k _ (mx_mem (l := l))
  omega
/-- lists of whole numbers -/
def IL (H : Hp) (v : V) (r : List Int) : Prop := ∃ a, v = .ref a ∧ H a = some (.lst (r.map V.int))
theorem IL.mono {H H' : Hp} (k : Same H H') {v : V} {r : List Int} (h : IL H v r) : IL H' v r := let ⟨a, e, h⟩ := h; ⟨a, e, k _ _ h⟩
def Mat (H : Hp) (v : V) (rows : List (List Int)) : Prop := ∃ c rs, v = .ref c ∧ H c = some (.lst rs) ∧ Seq (IL H) rs rows
theorem Mat.mono {H H' : Hp} (k : Same H H') {v : V} {rows : List (List Int)} (h : Mat H v rows) : Mat H' v rows := let ⟨a, rs, e, h, q⟩ := h; ⟨a, rs, e, k _ _ h, q.mono fun _ _ r => r.mono k⟩
section
variable {X : Cx}
theorem catA (K : PySem.W.Frag) (h : X.K = K) : OpR X (binaryOp .Add) (rCatA K) := by subst h; exact op_catA
def rLenQ (K : PySem.W.Frag) : List V → Hp → VK → Prop := fun xs H Q => ∃ p ys, xs = [.ref p] ∧ (SqL K H p ys ∨ SqT K H p ys) ∧ Q (.int ys.length) H
theorem lenQ (K : PySem.W.Frag) (h : X.K = K) : CallR X (.builtin "len") (rLenQ K) := by subst h; exact call_len_seq
theorem maxQ (K : PySem.W.Frag) (h : X.K = K) (hc : X.calm = true) : CallR X (.builtin "max") (rMax K) := by subst h; exact cr_max hc
end
theorem cat_of {K : PySem.W.Frag} {H : Hp} {x y : V} {xs ys : List Col} {Q : VK} (hx : Cols H x xs) (hy : Cols H y ys) (hl : xs.length + ys.length ≤ 10000) (k : ∀ v H', Same H H' → Cols H' v (xs ++ ys) → Q v H') : rCatA K x y H Q := by
  obtain ⟨a, us, rfl, ha, sa⟩ := hx
  obtain ⟨b, ws, rfl, hb, sb⟩ := hy
  refine ⟨a, b, us, ws, rfl, rfl, SqT.at_ ha, SqT.at_ hb, lineN (by rw [sa.1, sb.1]; exact hl), fun e => ?_, fun e e2 => ?_, fun e e2 p np => ?_⟩
  · subst e
    have z : xs = [] := List.eq_nil_of_length_eq_zero sa.1.symm
    subst z
    exact k _ _ (.refl _) ⟨b, ws, rfl, hb, sb⟩
  · subst e2
    have z : ys = [] := List.eq_nil_of_length_eq_zero sb.1.symm
    subst z
    exact k _ _ (.refl _) ⟨a, us, rfl, ha, by rw [List.append_nil]; exact sa⟩
  · exact k _ _ (same_new np) ⟨p, _, rfl, upd_same, (sa.append sb).mono fun _ _ r => r.mono (tk_new np)⟩
/-- an item of a laid-out list, and its setting -/
theorem ixNat {n j : Nat} (hj : j < n) : ixN n (j : Int) = some j := by
  unfold ixN
  rw [if_pos (by omega), if_pos (by omega)]; simp
theorem atI_arr {α : Type} {n i : Nat} {f : Nat → α} (h : i < n) : atI (arr n f) (i : Int) = some (f i) := atI_nat (arr_get h)
theorem ixA {K : PySem.W.Frag} {H : Hp} {p : Addr} {n i : Nat} {f : Nat → V} {Q : VK} (h : H p = some (.lst (arr n f))) (hi : i < n) (q : Q (f i) H) : rIxL K (.ref p) (.int (i : Nat)) H Q := ⟨p, _, _, _, rfl, rfl, SqL.at_ h, atI_arr hi, q⟩
theorem ixX {K : PySem.W.Frag} {H : Hp} {p : Addr} {i : Nat} {xs : List V} {v : V} {Q : VK} (h : H p = some (.lst xs)) (hi : xs[i]? = some v) (q : Q v H) : rIxL K (.ref p) (.int (i : Nat)) H Q := ⟨p, _, _, _, rfl, rfl, SqL.at_ h, atI_nat hi, q⟩
theorem setA {H : Hp} {p : Addr} {n i : Nat} {f g : Nat → V} {x : V} {Q : Hp → Prop} (h : H p = some (.lst (arr n f))) (hi : i < n) (e : ∀ j, j < n → g j = if j = i then x else f j) (q : Q (upd H p (.lst (arr n g)))) : rSetL (.ref p) (.int (i : Nat)) x H Q := by
  refine ⟨p, _, _, i, rfl, rfl, h, by rw [arr_length]; exact ixNat hi, ?_⟩
  rw [arr_set, ← arr_ext e]
  exact q
/-- range(n), from nought -/
theorem rlo {n : Nat} : -(2 ^ 62) ≤ (n : Int) := by omega
theorem rhi {n : Nat} (h : n ≤ 10000) : (n : Int) < 2 ^ 62 := by omega
theorem alen {n : Nat} {f : Nat → V} (h : n ≤ 10000) : (arr n f).length ≤ 10000 := by rw [arr_length]; exact h
theorem for_rg {n : Nat} {g : TG} {tb : TS} {D : Ends} {σ : L2.St} {H : Hp} (Pv : Nat → L2.St → Hp → Prop) (h0 : Pv 0 σ H)
    (hs : ∀ (i : Nat) σ H, i < n → Pv i σ H → g (.int (i : Int)) σ H fun σ2 H2 => tb { D with nx := Pv (i + 1), ct := Pv (i + 1), bk := D.nx } σ2 H2) (hd : ∀ σ H, Pv n σ H → D.nx σ H) :
    ∃ W : Nat → Nat → L2.St → Hp → Prop, (∃ m, W 0 m σ H) ∧ ∀ i m σ H, W i m σ H →
      ((Itr 0 n).stop i H ∧ D.nx σ H) ∨ ((Itr 0 n).go i H ∧ ∃ N : L2.St → Hp → Prop, (∀ σ' H', N σ' H' → ∃ m', m' < m ∧ W (i + 1) m' σ' H') ∧ ∀ x H', (Itr 0 n).yld i H x H' → g x σ H' fun σ2 H2 => tb { D with nx := N, ct := N, bk := D.nx } σ2 H2) :=
  for_range Pv h0 (fun i σ H hi h => by rw [Int.zero_add]; exact hs i σ H hi h) hd
theorem walk_rg {n : Nat} : Walk (Itr 0 n) n (fun _ => True) (YFn fun i => .int (i : Int)) :=
  (walk_range (lo := 0) (n := n)).mono (fun _ h => h) fun i H x H' _ _ y => ⟨y.1, by rw [y.2]; show V.int (0 + (i : Int)) = V.int (i : Int); rw [Int.zero_add]⟩
theorem flat_one {α : Type} (x : α) : ∀ n : Nat, (List.replicate n [x]).flatten = List.replicate n x
  | 0 => rfl
  | n + 1 => by rw [List.replicate_succ, List.flatten_cons, flat_one x n, List.replicate_succ]; rfl
theorem repA {H : Hp} {l : Addr} {x : V} {n : Nat} {k : Int} {Q : VK} (h : H l = some (.lst [x])) (e : k = (n : Int)) (hn : n ≤ 10000) (q : ∀ p, H p = none → Q (.ref p) (upd H p (.lst (arr n fun _ => x)))) : rRep (.ref l) (.int k) H Q := by
  subst e
  refine ⟨l, _, _, rfl, rfl, h, by omega, by omega, ?_, fun p hp => ?_⟩
  · rw [Int.toNat_natCast]; exact lineN (by simp; exact hn)
  · rw [Int.toNat_natCast, flat_one, arr_rep]
    exact q p hp
theorem cut_to {xs : List V} {m : Nat} : cutV xs none (some (m : Int)) = xs.take m := by
  unfold cutV
  rw [HT.sIx_none, HT.sIx_nat, List.drop_zero]
  by_cases q : m ≤ xs.length
  · rw [Nat.min_eq_left q]; rfl
  · rw [Nat.min_eq_right (by omega), Nat.sub_zero, List.take_of_length_le (Nat.le_refl _), List.take_of_length_le (by omega)]
theorem cut_from {xs : List V} {m : Nat} : cutV xs (some (m : Int)) none = xs.drop m := by
  unfold cutV
  rw [HT.sIx_none, HT.sIx_nat]
  by_cases q : m ≤ xs.length
  · rw [Nat.min_eq_left q, List.take_of_length_le (by rw [List.length_drop]; exact Nat.le_refl _)]
  · rw [Nat.min_eq_right (by omega), List.drop_length, List.drop_of_length_le (by omega)]; simp
/-- how many are not done -/
def cnt : Nat → (Nat → Bool) → Nat
  | 0, _ => 0
  | n + 1, d => cnt n d + (if d n = true then 0 else 1)
theorem cnt_le {d d' : Nat → Bool} (h : ∀ k, d k = true → d' k = true) : ∀ n, cnt n d' ≤ cnt n d
  | 0 => Nat.le_refl _
  | n + 1 => by
    have i := cnt_le h n
    unfold cnt
    by_cases q : d n = true
    · rw [if_pos q, if_pos (h n q)]; omega
    · rw [if_neg q]; split <;> omega
theorem cnt_lt {d d' : Nat → Bool} (h : ∀ k, d k = true → d' k = true) {j : Nat} (h1 : d j = false) (h2 : d' j = true) : ∀ {n}, j < n → cnt n d' < cnt n d
  | 0, l => absurd l (by omega)
  | n + 1, l => by
    unfold cnt
    by_cases q : j = n
    · subst q
      have i := cnt_le h j
      rw [if_pos h2, if_neg (by rw [h1]; decide)]; omega
    · have i := cnt_lt h h1 h2 (n := n) (by omega)
      by_cases z : d n = true
      · rw [if_pos z, if_pos (h n z)]; omega
      · rw [if_neg z]; split <;> omega
/-- a list that grows, beside an older heap -/
structure Lx {α : Type} (R : Hp → V → α → Prop) (H0 : Hp) (fa : Addr) (xs : List α) (H : Hp) : Prop where
  sm : Same H0 H
  at_ : ∃ vs, H fa = some (.lst vs) ∧ Seq (R H) vs xs
def Mo {α : Type} (R : Hp → V → α → Prop) : Prop := ∀ {H H' : Hp}, Tk H H' → ∀ {v : V} {x : α}, R H v x → R H' v x
section
variable {α : Type} {R : Hp → V → α → Prop} {H0 H : Hp} {fa : Addr} {xs : List α}
theorem Lx.to (M : Mo R) (h : Lx R H0 fa xs H) {H' : Hp} (k : Same H H') : Lx R H0 fa xs H' := ⟨h.sm.trans k, let ⟨vs, e, q⟩ := h.at_; ⟨vs, k _ _ e, q.mono fun _ _ r => M (stk k) r⟩⟩
theorem Lx.new {H0 H : Hp} (s : Same H0 H) (n : H fa = none) : Lx R H0 fa [] (upd H fa (.lst [])) := ⟨s.trans (same_new n), [], upd_same, Seq.nil⟩
theorem Lx.ty (h : Lx R H0 fa xs H) {K : PySem.W.Frag} : tyV K "list" (.ref fa) H := let ⟨vs, e, _⟩ := h.at_; .inl ⟨rfl, _, SqL.at_ e⟩
theorem app_of (M : Mo R) (h : Lx R H0 fa xs H) (n0 : H0 fa = none) (hl : xs.length ≤ 9999) {y : V} {x : α} (r : R H y x) {Q : VK} (k : ∀ H', Lx R H0 fa (xs ++ [x]) H' → Tk H H' → Q .non H') : rAppend (.ref fa) [y] H Q := by
  obtain ⟨s, vs, e, q⟩ := h
  refine ⟨fa, vs, y, rfl, rfl, e, lineL (by rw [q.1]; omega), k _ ⟨same_at s n0, _, upd_same, ?_⟩ (tk_lst e)⟩
  exact (q.snoc r).mono fun _ _ r => M (tk_lst e) r
end
theorem app_at {α : Type} {R : Hp → V → α → Prop} {H0 H : Hp} {fa : Addr} {xs : List α} {σ : L2.St} (M : Mo R) (h : Lx R H0 fa xs H) (n0 : H0 fa = none) (hl : xs.length ≤ 9999) {y : V} {x : α} (r : R H y x) {Q : VK} (k : ∀ H', Lx R H0 fa (xs ++ [x]) H' → Tk H H' → Q .non H') :
    tNil σ H fun zs H2 => rAppend (.ref fa) (y :: zs) H2 Q := app_of M h n0 hl r k
theorem nd_inj {α : Type} {xs : List α} {d : α} (h : xs.Nodup) {i j : Nat} (hi : i < xs.length) (hj : j < xs.length) (e : xs.getD i d = xs.getD j d) : i = j := by
  rw [List.getD_eq_getElem?_getD, List.getD_eq_getElem?_getD, List.getElem?_eq_getElem hi, List.getElem?_eq_getElem hj] at e
  have e : xs[i] = xs[j] := e
  have p := List.pairwise_iff_getElem.mp h
  rcases Nat.lt_trichotomy i j with q | q | q
  · exact absurd e (p i j hi hj q)
  · exact q
  · exact absurd e.symm (p j i hj hi q)
theorem Lx.set {α : Type} {R : Hp → V → α → Prop} {H0 H : Hp} {fa : Addr} {xs : List α} (M : Mo R) (h : Lx R H0 fa xs H) (n0 : H0 fa = none) {i : Nat} (hi : i < xs.length) {y : V} {x : α} (r : R H y x) {Q : Hp → Prop}
    (k : ∀ H', Lx R H0 fa (xs.set i x) H' → Tk H H' → Q H') : rSetL (.ref fa) (.int (i : Nat)) y H Q := by
  obtain ⟨s, vs, e, q⟩ := h
  refine ⟨fa, vs, _, i, rfl, rfl, e, by rw [q.1]; exact ixNat hi, k _ ⟨same_at s n0, _, upd_same, ?_⟩ (tk_lst e)⟩
  exact (q.set r i).mono fun _ _ r => M (tk_lst e) r
theorem same_del {H H4 : Hp} {fa : Addr} (s : Same H H4) (n : H fa = none) : Same H (del H4 fa) := fun b u e => by
  rw [del_ne (ne_of_none e n)]; exact s _ _ e
theorem ifQ {r : Bool} {ta tb : TE} {σ : L2.St} {H : Hp} {Q : VK} (R : V → Prop) (h1 : r = true → ∀ Q' : VK, (∀ lv, R lv → Q' lv H) → ta σ H Q') (h2 : r = false → ∀ Q' : VK, (∀ lv, R lv → Q' lv H) → tb σ H Q') (m : ∀ lv, R lv → Q lv H) : if r = true then ta σ H Q else tb σ H Q := by
  cases r with
  | true => exact h1 rfl _ m
  | false => exact h2 rfl _ m
theorem ifN {r : Bool} {t u : TS} {D : Ends} {σ : L2.St} {H : Hp} (M : L2.St → Hp → Prop) (h1 : r = true → ∀ D' : Ends, (∀ σ H, M σ H → D'.nx σ H) → t D' σ H) (h2 : r = false → ∀ D' : Ends, (∀ σ H, M σ H → D'.nx σ H) → u D' σ H) (m : ∀ σ H, M σ H → D.nx σ H) : if r = true then t D σ H else u D σ H := by
  cases r with
  | true => exact h1 rfl _ m
  | false => exact h2 rfl _ m
theorem at3 {α : Type} (x y z u : α) (r : List α) : atI (x :: y :: z :: u :: r) 3 = some u := atI_nat (j := 3) rfl
theorem cut_ints (ns : List Int) (lo hi : Option Int) : ∃ ms : List Int, cutV (ns.map V.int) lo hi = ms.map V.int ∧ ms.length ≤ ns.length := by
  unfold cutV
  rw [← List.map_drop, ← List.map_take]
  exact ⟨_, rfl, by rw [List.length_take, List.length_drop]; omega⟩
end Lo

namespace Lo
open PySem PySem.Spec PyProof.Rows L2
section
variable {P : Program} {w : World} {K : PySem.W.Frag} {mg : Str → Option Value} {base : Heap}
/-! ### square_between, squared_way, price_of -/
abbrev sSq : Stmt := topS 2
theorem scSq : FnScope ["one", "other"] ["one", "other"] (defScope sSq) := ⟨rfl, rfl, rfl, by decide +kernel, rfl, by decide +kernel, by decide +kernel⟩
def spSq : Sp := fun vs H Q _ => ∃ (x y : V) (a b : Col), vs = [x, y] ∧ CV H x a ∧ CV H y b ∧ Bc a ∧ Bc b ∧ Q (.int (sqd a b)) H
theorem ok_sq (h : Has K mg "square_between" sSq ["one", "other"]) : Kept P w K mg base 1 "square_between" ["one", "other"] spSq := by
  refine h.kept fun f fd F => F.ok scSq (fun vs H Q E h => ?_) (fun cdv A outer s H vs Q E hr h => ?_)
  · obtain ⟨x, y, a, b, rfl, _⟩ := h
    rfl
  · obtain ⟨x, y, a, b, rfl, ⟨p, rfl, hp⟩, ⟨q, rfl, hq⟩, ⟨⟨a1, a2⟩, a3, a4⟩, ⟨⟨b1, b2⟩, b3, b4⟩, k⟩ := h
    refine ⟨_, pss_one (ps_ret (pe_op op_add
      (pe_op op_mul (pe_op op_sub (pe_ix ix_tup (pv 1) pe_int (fun _ _ => rfl)) (pe_ix ix_tup (pv 0) pe_int (fun _ _ => rfl))) (pe_op op_sub (pe_ix ix_tup (pv 1) pe_int (fun _ _ => rfl)) (pe_ix ix_tup (pv 0) pe_int (fun _ _ => rfl))))
      (pe_op op_mul (pe_op op_sub (pe_ix ix_tup (pv 1) pe_int (fun _ _ => rfl)) (pe_ix ix_tup (pv 0) pe_int (fun _ _ => rfl))) (pe_op op_sub (pe_ix ix_tup (pv 1) pe_int (fun _ _ => rfl)) (pe_ix ix_tup (pv 0) pe_int (fun _ _ => rfl)))))), ?_⟩
    have P := SqT.at_ (K := K) hp
    have R := SqT.at_ (K := K) hq
    refine ⟨_, rfl, q, _, 0, _, rfl, rfl, R, at0 _ _, _, rfl, p, _, 0, _, rfl, rfl, P, at0 _ _, _, _, rfl, rfl, ?_⟩
    refine ⟨_, rfl, q, _, 0, _, rfl, rfl, R, at0 _ _, _, rfl, p, _, 0, _, rfl, rfl, P, at0 _ _, _, _, rfl, rfl, _, _, rfl, rfl, .inl ⟨by omega, by omega⟩, ?_⟩
    refine ⟨_, rfl, q, _, 1, _, rfl, rfl, R, at1 _ _ _, _, rfl, p, _, 1, _, rfl, rfl, P, at1 _ _ _, _, _, rfl, rfl, ?_⟩
    refine ⟨_, rfl, q, _, 1, _, rfl, rfl, R, at1 _ _ _, _, rfl, p, _, 1, _, rfl, rfl, P, at1 _ _ _, _, _, rfl, rfl, _, _, rfl, rfl, .inl ⟨by omega, by omega⟩, ?_⟩
    exact ⟨_, _, rfl, rfl, k⟩
abbrev sSw : Stmt := topS 1
theorem scSw : FnScope ["leg"] ["leg"] (defScope sSw) := ⟨rfl, rfl, rfl, by decide +kernel, rfl, by decide +kernel, by decide +kernel⟩
def spSw : Sp := fun vs H Q _ => ∃ (x : V) (l : Col × Col), vs = [x] ∧ LV H x l ∧ Bc l.1 ∧ Bc l.2 ∧ Q (.int (sqd l.1 l.2)) H
theorem ok_sw (h : Has K mg "squared_way" sSw ["leg"]) (G : Kept P w K mg base 1 "square_between" ["one", "other"] spSq) : Kept P w K mg base 2 "squared_way" ["leg"] spSw := by
  refine h.kept fun f fd F => F.ok scSw (fun vs H Q E h => ?_) (fun cdv A outer s H vs Q E hr h => ?_)
  · obtain ⟨x, l, rfl, _⟩ := h
    rfl
  · obtain ⟨x, l, rfl, ⟨p, u, v, rfl, hp, hu, hv⟩, b1, b2, k⟩ := h
    refine ⟨_, pss_one (ps_ret (pcall G hr (by rfl) (pa_cons (pe_ix ix_tup (pv 0) pe_int (fun _ _ => rfl)) (pa_cons (pe_ix ix_tup (pv 0) pe_int (fun _ _ => rfl)) pa_nil)))), ?_⟩
    have P := SqT.at_ (K := K) hp
    refine ⟨_, rfl, p, _, 0, _, rfl, rfl, P, at0 _ _, _, rfl, p, _, 1, _, rfl, rfl, P, at1 _ _ _, ?_⟩
    exact ⟨u, v, l.1, l.2, rfl, hu, hv, b1, b2, k⟩
abbrev sPr : Stmt := topS 3
theorem scPr : FnScope ["legs", "leg"] ["legs"] (defScope sPr) := ⟨rfl, rfl, rfl, by decide +kernel, rfl, by decide +kernel, by decide +kernel⟩
/-- the price of legs -/
def pri (ls : List (Col × Col)) : Int := (ls.map fun l => sqd l.1 l.2).sum
def spPr : Sp := fun vs H Q _ => ∃ (x : V) (ls : List (Col × Col)), vs = [x] ∧ Legs H x ls ∧ ls.length ≤ 1000 ∧ (∀ l ∈ ls, Bc l.1 ∧ Bc l.2) ∧ ∀ H', Same H H' → Q (.int (pri ls)) H'
theorem ok_pr (h : Has K mg "price_of" sPr ["legs"]) (B : Bl mg) (G : Kept P w K mg base 2 "squared_way" ["leg"] spSw) : Kept P w K mg base 3 "price_of" ["legs"] spPr := by
  refine h.kept fun f fd F => F.ok scPr (fun vs H Q E h => ?_) (fun cdv A outer s H vs Q E hr h => ?_)
  · obtain ⟨x, ls, rfl, _⟩ := h
    rfl
  · obtain ⟨x, ls, rfl, ⟨p, us, rfl, hp, hs⟩, hl, hb, k⟩ := h
    refine ⟨_, pss_one (ps_ret (pe_callB (cr_sum rfl) (by rfl) B.sum (by decide +kernel) (pa_cons
      (pe_lc (own := [("leg", 1)]) (g := gName 1) (tt := tYes) rfl scPr.nd (pi_tup (pv 0)) (blkOk_by (N := ["legs", "leg"]) (sc := defScope sPr) (by decide +kernel)) (fun _ _ _ _ _ => pg_name (i := 1) scPr.nd rfl (Or.inl rfl)) (fun _ _ _ _ _ => pts_nil)
        (fun _ _ _ _ _ => pcall G hr (by rfl) (pa_cons (pv 1) pa_nil))) pa_nil))), ?_⟩
    refine ⟨_, rfl, p, rfl, ⟨_, SqT.at_ hp⟩, fun D nD => ?_⟩
    refine lc_tup (K := K) (a := p) (xs := us) (fun i H' => Same H H' ∧ H' D = some (.lst ((ls.take i).map fun l => V.int (sqd l.1 l.2)))) ⟨same_new nD, upd_same⟩ (fun i H' _ h => SqT.at_ (h.1 _ _ hp)) (fun i x H' hx h => ?_) (fun H' h => ?_)
    · obtain ⟨s1, h1⟩ := h
      obtain ⟨l, hl1, hl2⟩ := hs.get' hx
      have hm := List.mem_of_getElem? hl1
      refine ⟨rfl, ?_⟩
      refine ⟨x, rfl, x, l, rfl, hl2.mono (stk s1), (hb l hm).1, (hb l hm).2, _, h1, ?_, same_at s1 nD, ?_⟩
      · rw [List.length_map, List.length_take]; exact lineL (by omega)
      · rw [upd_same, List.take_add_one, hl1, List.map_append]; rfl
    · obtain ⟨s1, h1⟩ := h
      rw [hs.1, List.take_length] at h1
      exact ⟨D, _, rfl, SqL.at_ (xs := (ls.map fun (l : Col × Col) => sqd l.1 l.2).map V.int) (by rw [List.map_map]; exact h1), k H' s1⟩
end
end Lo

namespace Lo
open PySem PySem.Spec PyProof.Rows L2
section
variable {P : Program} {w : World} {K : PySem.W.Frag} {mg : Str → Option Value} {base : Heap}
/-! ### free_spares -/
abbrev sFs : Stmt := topS 4
abbrev nFs : List Str := ["spare", "legs", "tos", "leg", "index", "column"]
theorem scFs : FnScope nFs ["spare", "legs"] (defScope sFs) := ⟨rfl, rfl, rfl, by decide +kernel, rfl, by decide +kernel, by decide +kernel⟩
/-- the spare ones that are free -/
def frees (sp : List Col) (ls : List (Col × Col)) : List Nat := (List.range sp.length).filter fun j => decide (sp.getD j (0, 0) ∉ ls.map (·.2))
def spFs : Sp := fun vs H Q _ => ∃ (x y : V) (sp : List Col) (ls : List (Col × Col)), vs = [x, y] ∧ Cols H x sp ∧ Legs H y ls ∧ sp.length ≤ 1000 ∧ ls.length ≤ 1000 ∧
  ∀ H' p, Same H H' → H' p = some (.tup ((frees sp ls).map fun j => V.int (j : Nat))) → Q (.ref p) H'
theorem ok_fs (h : Has K mg "free_spares" sFs ["spare", "legs"]) (B : Bl mg) : Kept P w K mg base 1 "free_spares" ["spare", "legs"] spFs := by
  refine h.kept fun f fd F => F.ok scFs (fun vs H Q E h => ?_) (fun cdv A outer s H vs Q E hr h => ?_)
  · obtain ⟨x, y, sp, ls, rfl, _⟩ := h
    rfl
  · obtain ⟨x, y, sp, ls, rfl, ⟨p, us, rfl, hp, hs⟩, ⟨q, ws, rfl, hq, ht⟩, l1, l2, k⟩ := h
    refine ⟨_, pss_cons (ps_set (i := 2) scFs.nd rfl (.inr rfl)
        (pe_lc (own := [("leg", 3)]) (g := gName 3) (tt := tYes) rfl scFs.nd (pi_tup (pv 1)) (blkOk_by (N := nFs) (sc := defScope sFs) (by decide +kernel)) (fun _ _ _ _ _ => pg_name (i := 3) scFs.nd rfl (Or.inl rfl)) (fun _ _ _ _ _ => pts_nil)
          (fun _ _ _ _ _ => pe_ix (ixT K rfl) (pv 3) pe_int (fun _ _ => rfl))))
      (pss_one (ps_ret (pe_callTy call_tuple_of (by rfl) B.tuple (by decide +kernel) (pa_cons
        (pe_lc (own := [("index", 4), ("column", 5)]) (g := gTup K 2 (gCons (gName 4) (gCons (gName 5) gNil))) rfl scFs.nd (pi_enB true (by rfl) B.enumerate (pa_cons (pv 0) pa_nil)) (blkOk_by (N := nFs) (sc := defScope sFs) (by decide +kernel))
          (fun _ _ _ _ _ => pg_tup rfl (pgs_cons (pg_name (i := 4) scFs.nd rfl (Or.inl rfl)) (pgs_cons (pg_name (i := 5) scFs.nd rfl (Or.inl rfl)) pgs_nil)))
          (fun _ _ _ _ _ => pts_one (pt_cmpR (notInC false K rfl (hu65 hr)) (pv 5) (pv 2) rfl))
          (fun _ _ _ _ _ => pv 4)) pa_nil)))), ?_⟩
    refine ⟨_, rfl, q, rfl, ⟨_, SqT.at_ hq⟩, fun D nD => ?_⟩
    refine lcT (walk_tup (K := K) (a := q) (xs := ws)) (fun i acc H' => Seq (CV H') acc ((ls.take i).map fun (l : Col × Col) => l.2)) (by rw [ht.1]; omega) nD (fun _ _ _ _ t v => v.mono fun _ _ r => r.mono t) Seq.nil (fun H' s => SqT.at_ (s _ _ hq)) ?_ ?_
    · rintro i x H1 _ acc hi s1 v ⟨rfl, hx⟩ Ky Kn ky kn
      obtain ⟨l, hl1, a, u1, u2, rfl, ha, c1, c2⟩ := ht.get' hx
      refine ⟨rfl, ?_⟩
      refine ⟨_, rfl, a, _, 1, _, rfl, rfl, SqT.at_ (s1 _ _ ha), at1 _ _ _, ?_⟩
      refine ky _ _ (.refl _) ?_
      rw [List.take_add_one, hl1, List.map_append]
      exact v.snoc (c2.mono (stk s1))
    · intro H1 acc s1 hD _ v
      rw [ht.1, List.take_length] at v
      refine ⟨_, rfl, p, us, rfl, SqT.at_ (s1 _ _ hp), ?_⟩
      intro D2 nD2
      have nq : D2 ≠ D := fun e => by rw [e, hD] at nD2; cases nD2
      refine lcT (walk_enB (K := K) (b := true) (a := p) (xs := us)) (fun i acc H' => acc = ((List.range i).filter fun j => decide (sp.getD j (0, 0) ∉ ls.map (·.2))).map fun j => V.int (j : Nat)) (by rw [hs.1]; omega) nD2 (fun _ _ _ _ _ v => v) rfl (fun H' s => SqT.at_ (s _ _ (s1 _ _ hp))) ?_ ?_
      · rintro i x H2 _ acc hi s2 rfl ⟨T, x1, y1, rfl, nT, rfl, e1, e2⟩ Ky Kn ky kn
        cases e1
        obtain ⟨c, hc1, hc2⟩ := hs.get' e2
        have sT : Same H2 (upd H2 T (.tup [.int (i : Nat), y1])) := same_new nT
        have s3 := (s1.trans s2).trans sT
        refine ⟨T, _, rfl, SqT.at_ upd_same, rfl, _, _, rfl, _, _, rfl, rfl, rfl, ?_⟩
        refine ⟨_, rfl, _, rfl, c, _, D, acc, hc2.mono (stk s3), rfl, SqL.at_ (sT _ _ (s2 _ _ hD)), v.mono fun _ _ r => r.mono (stk (s2.trans sT)), ?_⟩
        rintro r hr
        have hg : sp.getD i (0, 0) = c := by rw [List.getD_eq_getElem?_getD, hc1]; rfl
        refine ⟨r, rfl, ?_⟩
        refine ifB (fun z => ?_) (fun z => ?_)
        · refine ⟨_, rfl, ky _ _ sT ?_⟩
          rw [List.range_succ, List.filter_append, List.map_append, List.filter_cons, if_pos (by rw [hg]; exact decide_eq_true (hr.mp z))]; rfl
        · refine kn _ sT ?_
          rw [List.range_succ, List.filter_append, List.filter_cons, if_neg (by rw [hg]; exact fun y => (by rw [hr.mpr (of_decide_eq_true y)] at z; cases z))]; simp
      · intro H2 acc2 s2 hD2 _ v2
        rw [hs.1] at v2
        refine ⟨D2, acc2, rfl, .inl ⟨SqL.at_ hD2, fun l nl => ?_⟩⟩
        rw [v2]
        exact k _ _ ((s1.trans s2).trans (same_new nl)) upd_same
end
end Lo

namespace Lo
open PySem PySem.Spec PyProof.Rows L2
section
variable {P : Program} {w : World} {K : PySem.W.Frag} {mg : Str → Option Value} {base : Heap}
/-! ### costs_of -/
abbrev sCo : Stmt := topS 5
abbrev nCo : List Str := ["froms", "goals", "spare", "costs", "greatest", "one", "other", "row"]
theorem scCo : FnScope nCo ["froms", "goals", "spare"] (defScope sCo) := ⟨rfl, rfl, rfl, by decide +kernel, rfl, by decide +kernel, by decide +kernel⟩
abbrev scCo1 : Scope := { kind := .function, names := [(".0", .local), ("one", .cell), ("goals", .cell), ("spare", .cell)], isGenerator := false, isCoroutine := false }
abbrev rowOf (ts : List Col) (f : Col) : List Int := ts.map fun (t : Col) => sqd f t
abbrev rowsOf (fs ts : List Col) : List (List Int) := fs.map (rowOf ts)
abbrev grt (fs ts : List Col) : Int := mx ((rowsOf fs ts).map mx)
abbrev mor (fs ts : List Col) : Int := 1 + grt fs ts * (1 + 2 * (fs.length : Int))
def spCo : Sp := fun vs H Q _ => ∃ (x y z : V) (fs gs ss : List Col), vs = [x, y, z] ∧ Cols H x fs ∧ Cols H y gs ∧ Cols H z ss ∧ fs.length ≤ 100 ∧ gs.length ≤ 100 ∧ ss.length ≤ 100 ∧ (∀ c ∈ fs, Bc c) ∧ (∀ c ∈ gs ++ ss, Bc c) ∧
  ∀ H' p c, Same H H' → H' p = some (.tup [c, .int (mor fs (gs ++ ss))]) → Mat H' c (rowsOf fs (gs ++ ss)) → Q (.ref p) H'
theorem ok_co (h : Has K mg "costs_of" sCo ["froms", "goals", "spare"]) (B : Bl mg) (G : Kept P w K mg base 1 "square_between" ["one", "other"] spSq) : Kept P w K mg base 2 "costs_of" ["froms", "goals", "spare"] spCo := by
  refine h.kept fun f fd F => F.ok scCo (fun vs H Q E h => ?_) (fun cdv A outer s H vs Q E hr h => ?_)
  · obtain ⟨x, y, z, fs, gs, ss, rfl, _⟩ := h
    rfl
  · obtain ⟨x, y, z, fs, gs, ss, rfl, hx, hy, hz, l1, l2, l3, b1, b2, k⟩ := h
    refine ⟨_, pss_cons (ps_setLc (i := 3) (own := [("one", 5)]) (g := gName 5) (tt := tYes) rfl scCo.nd rfl rfl (sw_true rfl rfl rfl (by decide +kernel)) (pi_tup (pv 0)) (blkOk_by (N := nCo) (sc := defScope sCo) (by decide +kernel)) (fun _ _ _ _ _ => pg_name (i := 5) scCo.nd rfl (Or.inr rfl)) (fun _ _ _ _ _ => pts_nil)
          (fun _ _ _ _ _ => pe_lc (wi := iTup K (tOp (rCatA K) (tVar 1) (tVar 2))) (own := [("other", 6)]) (g := gName 6) (tt := tYes) rfl scCo.nd (pi_tup (pe_op (catA K rfl) (pv 1) (pv 2))) (blkOk_by (N := nCo) (sc := scCo1) (by decide +kernel)) (fun _ _ _ _ _ => pg_name (i := 6) scCo.nd rfl (Or.inl rfl)) (fun _ _ _ _ _ => pts_nil)
            (fun _ _ _ _ _ => pcall G hr (by rfl) (pa_cons (pv 5) (pa_cons (pv 6) pa_nil)))))
      (pss_cons (ps_set (i := 4) scCo.nd rfl (.inl rfl) (pe_callB (maxQ K rfl rfl) (by rfl) B.max (by decide +kernel) (pa_cons (pe_op op_cat (pe_lst (pa_cons pe_int pa_nil))
         (pe_lc (own := [("row", 7)]) (g := gName 7) (tt := tYes) rfl scCo.nd (pi_list (pv 3)) (blkOk_by (N := nCo) (sc := defScope sCo) (by decide +kernel)) (fun _ _ _ _ _ => pg_name (i := 7) scCo.nd rfl (Or.inl rfl)) (fun _ _ _ _ _ => pts_nil)
            (fun _ _ _ _ _ => pe_callB (maxQ K rfl rfl) (by rfl) B.max (by decide +kernel) (pa_cons (pe_op op_cat (pe_lst (pa_cons pe_int pa_nil)) (pv 7)) pa_nil)))) pa_nil)))
      (pss_one (ps_ret (pe_tup (pa_cons (pv 3) (pa_cons (pe_op op_add pe_int (pe_op op_mul (pv 4) (pe_op op_add pe_int (pe_op op_mul pe_int (pe_callB (lenQ K rfl) (by rfl) B.len (by decide +kernel) (pa_cons (pv 0) pa_nil)))))) pa_nil)))))), ?_⟩
    obtain ⟨p, us, rfl, hp, hs⟩ := hx
    refine ⟨_, rfl, p, rfl, ⟨_, SqT.at_ hp⟩, fun D nD => ?_⟩
    have lt : (gs ++ ss).length ≤ 200 := by rw [List.length_append]; omega
    refine lcS (walk_tup (K := K) (a := p) (xs := us)) (fun i acc H' => Seq (IL H') acc ((fs.take i).map (rowOf (gs ++ ss)))) (by rw [hs.1]; omega) nD (fun _ _ _ _ t v => v.mono fun _ _ r => r.mono t) Seq.nil (fun H' s => SqT.at_ (s _ _ hp)) ?_ ?_
    · rintro i u H1 _ acc hi s1 dD v ⟨rfl, hu⟩ Ky Kn ky kn
      obtain ⟨f, hf, hcu⟩ := hs.get' hu
      refine ⟨rfl, ?_⟩
      refine ⟨_, rfl, _, rfl, cat_of (hy.mono (stk s1)) (hz.mono (stk s1)) (by omega) fun t H2 s2 ht => ?_⟩
      obtain ⟨tp, tv, rfl, htp, hts⟩ := ht
      refine ⟨tp, rfl, ⟨_, SqT.at_ htp⟩, fun D2 nD2 => ?_⟩
      refine lcT (walk_tup (K := K) (a := tp) (xs := tv)) (fun j acc2 _ => acc2 = (((gs ++ ss).take j).map fun (t : Col) => sqd f t).map V.int) (by rw [hts.1]; omega) nD2 (fun _ _ _ _ _ v => v) rfl (fun H' s => SqT.at_ (s _ _ htp)) ?_ ?_
      · rintro j u2 H3 _ acc2 hj s3 rfl ⟨rfl, hu2⟩ Ky2 Kn2 ky2 kn2
        obtain ⟨t, htt, hct⟩ := hts.get' hu2
        refine ⟨rfl, ?_⟩
        refine ⟨_, rfl, _, rfl, u, u2, f, t, rfl, hcu.mono (stk ((s1.trans s2).trans s3)), hct.mono (stk s3), b1 _ (List.mem_of_getElem? hf), b2 _ (List.mem_of_getElem? htt), ky2 _ _ (.refl _) ?_⟩
        rw [List.take_add_one, htt, List.map_append, List.map_append]; rfl
      · intro H3 acc2 s3 d2 _ v2
        rw [hts.1, List.take_length] at v2
        refine ky _ _ (s2.trans s3) ?_
        rw [List.take_add_one, hf, List.map_append]
        exact (v.mono fun _ _ r => r.mono (del_same (s2.trans s3))).snoc ⟨D2, rfl, by rw [del_ne (ne_new (s2 _ _ dD) nD2).symm, d2, v2]⟩
    · intro H1 acc s1 dD _ v
      rw [hs.1, List.take_length] at v
      have v1 : Seq (IL H1) acc (rowsOf fs (gs ++ ss)) := v.mono fun _ _ r => r.mono del_to
      refine ⟨lineN (by decide), fun p0 n0 => ?_⟩
      have s2 : Same H1 (upd H1 p0 (.lst [V.int 0])) := same_new n0
      refine ⟨_, rfl, D, rfl, ⟨_, SqL.at_ (s2 _ _ dD)⟩, fun D3 n3 => ?_⟩
      refine lcT (walk_list (K := K) (a := D) (xs := acc)) (fun i a3 _ => a3 = (((rowsOf fs (gs ++ ss)).take i).map mx).map V.int) (by rw [v1.1, List.length_map]; omega) n3 (fun _ _ _ _ _ v => v) rfl (fun H' s => SqL.at_ (s _ _ (s2 _ _ dD))) ?_ ?_
      · rintro i u H2 _ acc2 hi s3 rfl ⟨rfl, hu⟩ Ky Kn ky kn
        obtain ⟨r, hr1, ra, rfl, hra⟩ := v1.get' hu
        have lr : r.length ≤ 200 := by
          obtain ⟨f, hf, rfl⟩ := List.mem_map.mp (List.mem_of_getElem? hr1)
          rw [List.length_map]; exact lt
        refine ⟨rfl, ?_⟩
        refine ⟨lineN (by decide), fun p1 n1 => ?_⟩
        refine ⟨_, rfl, p1, ra, [.int 0], r.map V.int, rfl, rfl, upd_same, same_new n1 _ _ (s3 _ _ (s2 _ _ hra)), lineN (by simp; omega), fun p2 n2 => ?_⟩
        refine ⟨p2, 0 :: r, rfl, SqL.at_ upd_same, by simp, fun m h1 h2 => ?_⟩
        refine ky _ _ ((same_new n1).trans (same_new n2)) ?_
        rw [List.take_add_one, hr1, List.map_append, List.map_append, mx_eq h1 h2]; rfl
      · intro H2 a3 s3 d3 _ v3
        rw [v1.1, List.take_length] at v3
        refine ⟨p0, D3, [.int 0], a3, rfl, rfl, s3 _ _ upd_same, d3, lineN (by rw [v3]; simp; omega), fun p2 n2 => ?_⟩
        refine ⟨p2, 0 :: (rowsOf fs (gs ++ ss)).map mx, rfl, SqL.at_ (by rw [v3]; exact upd_same), by simp, fun m h1 h2 => ?_⟩
        have em : m = grt fs (gs ++ ss) := mx_eq h1 h2
        have s4 : Same H2 (upd H2 p2 (.lst ([.int 0] ++ a3))) := same_new n2
        have hl := hs.1
        refine ⟨_, rfl, _, rfl, _, rfl, p, us, rfl, .inr (SqT.at_ (s4 _ _ (s3 _ _ (s2 _ _ (s1 _ _ hp))))), _, _, rfl, rfl, .inl ⟨by decide, by decide⟩, _, _, rfl, rfl, _, _, rfl, rfl, .inr ⟨by omega, by omega⟩, _, _, rfl, rfl, lineN (by simp), fun q nq => ?_⟩
        have s5 := ((s2.trans s3).trans s4).trans (same_new (o := .tup [V.ref D, .int (1 + m * (1 + 2 * (us.length : Int)))]) nq)
        refine k _ _ _ (s1.trans s5) ?_ (Mat.mono s5 ⟨D, acc, rfl, dD, v1⟩)
        rw [upd_same, em, hl]
end
end Lo

namespace Lo
open PySem PySem.Spec PyProof.Rows L2
section
variable {P : Program} {w : World} {K : PySem.W.Frag} {mg : Str → Option Value} {base : Heap}
/-! ### one_step -/
abbrev sOs : Stmt := topS 7
abbrev nOs : List Str := ["costs", "column", "row_of", "of_rows", "of_columns", "least", "ahead", "is_done", "row", "other", "here", "open_ones", "step", "best"]
abbrev aOs : List Str := ["costs", "column", "row_of", "of_rows", "of_columns", "least", "ahead", "is_done"]
theorem scOs : FnScope nOs aOs (defScope sOs) := ⟨rfl, rfl, rfl, by decide +kernel, rfl, by decide +kernel, by decide +kernel⟩
/-- the six lists of the search -/
structure As where
  p : Addr
  u : Addr
  v : Addr
  l : Addr
  w : Addr
  d : Addr
structure S6 where
  p : Nat → Nat
  u : Nat → Int
  v : Nat → Int
  l : Nat → Option Int
  w : Nat → Nat
  d : Nat → Bool
def oV : Option Int → V
  | none => .non
  | some x => .int x
structure As.Ok (a : As) (H0 : Hp) : Prop where
  hp : H0 a.p = none
  hu : H0 a.u = none
  hv : H0 a.v = none
  hl : H0 a.l = none
  hw : H0 a.w = none
  hd : H0 a.d = none
  nd : [a.p, a.u, a.v, a.l, a.w, a.d].Nodup
structure Ls (n N : Nat) (H0 : Hp) (a : As) (s : S6) (H : Hp) : Prop where
  sm : Same H0 H
  hp : H a.p = some (.lst (arr (N + 1) fun k => V.int (s.p k : Nat)))
  hu : H a.u = some (.lst (arr (n + 1) fun k => V.int (s.u k)))
  hv : H a.v = some (.lst (arr (N + 1) fun k => V.int (s.v k)))
  hl : H a.l = some (.lst (arr (N + 1) fun k => oV (s.l k)))
  hw : H a.w = some (.lst (arr (N + 1) fun k => V.int (s.w k : Nat)))
  hd : H a.d = some (.lst (arr (N + 1) fun k => V.bl (s.d k)))
section
variable {n N : Nat} {H0 H : Hp} {a : As} {s : S6}
theorem Ls.to (h : Ls n N H0 a s H) {H' : Hp} (k : Same H H') : Ls n N H0 a s H' := ⟨h.sm.trans k, k _ _ h.hp, k _ _ h.hu, k _ _ h.hv, k _ _ h.hl, k _ _ h.hw, k _ _ h.hd⟩
theorem Ls.setP (h : Ls n N H0 a s H) (o : a.Ok H0) (f : Nat → Nat) : Ls n N H0 a { s with p := f } (upd H a.p (.lst (arr (N + 1) fun k => V.int (f k : Nat)))) := by
  have nd := o.nd
  simp only [List.nodup_cons, List.mem_cons, List.not_mem_nil, or_false, not_or] at nd
  obtain ⟨⟨a1, a2, a3, a4, a5⟩, ⟨b1, b2, b3, b4⟩, ⟨c1, c2, c3⟩, ⟨d1, d2⟩, e1, _⟩ := nd
  exact ⟨same_at h.sm o.hp, upd_same, (upd_ne (Ne.symm a1)).trans h.hu, (upd_ne (Ne.symm a2)).trans h.hv, (upd_ne (Ne.symm a3)).trans h.hl, (upd_ne (Ne.symm a4)).trans h.hw, (upd_ne (Ne.symm a5)).trans h.hd⟩
theorem Ls.setU (h : Ls n N H0 a s H) (o : a.Ok H0) (f : Nat → Int) : Ls n N H0 a { s with u := f } (upd H a.u (.lst (arr (n + 1) fun k => V.int (f k)))) := by
  have nd := o.nd
  simp only [List.nodup_cons, List.mem_cons, List.not_mem_nil, or_false, not_or] at nd
  obtain ⟨⟨a1, a2, a3, a4, a5⟩, ⟨b1, b2, b3, b4⟩, ⟨c1, c2, c3⟩, ⟨d1, d2⟩, e1, _⟩ := nd
  exact ⟨same_at h.sm o.hu, (upd_ne a1).trans h.hp, upd_same, (upd_ne (Ne.symm b1)).trans h.hv, (upd_ne (Ne.symm b2)).trans h.hl, (upd_ne (Ne.symm b3)).trans h.hw, (upd_ne (Ne.symm b4)).trans h.hd⟩
theorem Ls.setV (h : Ls n N H0 a s H) (o : a.Ok H0) (f : Nat → Int) : Ls n N H0 a { s with v := f } (upd H a.v (.lst (arr (N + 1) fun k => V.int (f k)))) := by
  have nd := o.nd
  simp only [List.nodup_cons, List.mem_cons, List.not_mem_nil, or_false, not_or] at nd
  obtain ⟨⟨a1, a2, a3, a4, a5⟩, ⟨b1, b2, b3, b4⟩, ⟨c1, c2, c3⟩, ⟨d1, d2⟩, e1, _⟩ := nd
  exact ⟨same_at h.sm o.hv, (upd_ne a2).trans h.hp, (upd_ne b1).trans h.hu, upd_same, (upd_ne (Ne.symm c1)).trans h.hl, (upd_ne (Ne.symm c2)).trans h.hw, (upd_ne (Ne.symm c3)).trans h.hd⟩
theorem Ls.setL (h : Ls n N H0 a s H) (o : a.Ok H0) (f : Nat → Option Int) : Ls n N H0 a { s with l := f } (upd H a.l (.lst (arr (N + 1) fun k => oV (f k)))) := by
  have nd := o.nd
  simp only [List.nodup_cons, List.mem_cons, List.not_mem_nil, or_false, not_or] at nd
  obtain ⟨⟨a1, a2, a3, a4, a5⟩, ⟨b1, b2, b3, b4⟩, ⟨c1, c2, c3⟩, ⟨d1, d2⟩, e1, _⟩ := nd
  exact ⟨same_at h.sm o.hl, (upd_ne a3).trans h.hp, (upd_ne b2).trans h.hu, (upd_ne c1).trans h.hv, upd_same, (upd_ne (Ne.symm d1)).trans h.hw, (upd_ne (Ne.symm d2)).trans h.hd⟩
theorem Ls.setW (h : Ls n N H0 a s H) (o : a.Ok H0) (f : Nat → Nat) : Ls n N H0 a { s with w := f } (upd H a.w (.lst (arr (N + 1) fun k => V.int (f k : Nat)))) := by
  have nd := o.nd
  simp only [List.nodup_cons, List.mem_cons, List.not_mem_nil, or_false, not_or] at nd
  obtain ⟨⟨a1, a2, a3, a4, a5⟩, ⟨b1, b2, b3, b4⟩, ⟨c1, c2, c3⟩, ⟨d1, d2⟩, e1, _⟩ := nd
  exact ⟨same_at h.sm o.hw, (upd_ne a4).trans h.hp, (upd_ne b3).trans h.hu, (upd_ne c2).trans h.hv, (upd_ne d1).trans h.hl, upd_same, (upd_ne (Ne.symm e1)).trans h.hd⟩
theorem Ls.setD (h : Ls n N H0 a s H) (o : a.Ok H0) (f : Nat → Bool) : Ls n N H0 a { s with d := f } (upd H a.d (.lst (arr (N + 1) fun k => V.bl (f k)))) := by
  have nd := o.nd
  simp only [List.nodup_cons, List.mem_cons, List.not_mem_nil, or_false, not_or] at nd
  obtain ⟨⟨a1, a2, a3, a4, a5⟩, ⟨b1, b2, b3, b4⟩, ⟨c1, c2, c3⟩, ⟨d1, d2⟩, e1, _⟩ := nd
  exact ⟨same_at h.sm o.hd, (upd_ne a5).trans h.hp, (upd_ne b4).trans h.hu, (upd_ne c3).trans h.hv, (upd_ne d2).trans h.hl, (upd_ne e1).trans h.hw, upd_same⟩
end
theorem oV_non {o : Option Int} (h : oV o = .non) : o = none := by
  cases o with
  | none => rfl
  | some x => cases h
theorem oV_some {o : Option Int} (h : ¬ oV o = .non) : ∃ x, o = some x := by
  cases o with
  | none => exact absurd rfl h
  | some x => exact ⟨x, rfl⟩
theorem d1_or {d : Nat → Bool} {j0 k : Nat} (h : d1F d j0 k = true) : k = j0 ∨ d k = true := by
  unfold d1F at h
  split at h
  · exact .inl (by assumption)
  · exact .inr h
def spOs : Sp := fun vs H Q _ => ∃ (x : V) (C : Nat → Nat → Int) (n N : Nat) (H0 : Hp) (a : As) (s : S6) (j0 : Nat),
  vs = [x, .int (j0 : Nat), .ref a.p, .ref a.u, .ref a.v, .ref a.l, .ref a.w, .ref a.d] ∧ Mat H0 x (arr n fun i => arr N (C i)) ∧ a.Ok H0 ∧ Ls n N H0 a s H ∧ n ≤ 1000 ∧ N ≤ 1000 ∧ j0 ≤ N ∧ s.p j0 < n ∧
  (∀ k, k ≤ N → s.p k ≤ n) ∧ (∀ o k, o ≤ N → k ≤ N → (o = j0 ∨ s.d o = true) → (k = j0 ∨ s.d k = true) → s.p o = s.p k → o = k) ∧ (∃ o, o < N ∧ o ≠ j0 ∧ s.d o = false) ∧
  (s.l N = none) ∧
  ∀ H' s' best st l1, s'.p = s.p → Ls n N H0 a s' H' → s'.l N = none → StepR N C s.u s.v s.p s.l s.w s.d j0 s'.u s'.v s'.l s'.w s'.d best st l1 → Q (.int (best : Nat)) H'
theorem ok_os (h : Has K mg "one_step" sOs aOs) (B : Bl mg) : Kept P w K mg base 1 "one_step" aOs spOs := by
  refine h.kept fun f fd F => F.ok scOs (fun vs H Q E h => ?_) (fun cdv A outer s H vs Q E hr h => ?_)
  · obtain ⟨x, C, n, N, H0, a, s, j0, rfl, _⟩ := h
    rfl
  · obtain ⟨x, C, n, N, H0, a, s, j0, rfl, hm, ok, L, hn, hN, hj0, hpj, hpn, inj, hop, hlN, k⟩ := h
    refine ⟨_, pss_cons (ps_asg pe_bl (pg_sub (pv 7) (pv 1) set_list))
      (pss_cons (ps_set (i := 8) scOs.nd rfl (.inl rfl) (pe_ix (ixL K rfl) (pv 2) (pv 1) (fun _ _ => rfl)))
      (pss_cons (ps_for PassesOwn.never rfl (pi_range1 (by rfl) B.range (pa_cons (pe_callB (lenQ K rfl) (by rfl) B.len (by decide +kernel) (pa_cons (pe_ix (ixL K rfl) (pv 0) (pv 8) (fun _ _ => rfl)) pa_nil)) pa_nil)) (pg_name (i := 9) scOs.nd rfl (.inl rfl))
        (pss_one (ps_if (pt_not (pt_val (pe_ix (ixL K rfl) (pv 7) (pv 9) (fun _ _ => rfl))))
          (pss_cons (ps_set (i := 10) scOs.nd rfl (.inl rfl) (pe_op op_sub (pe_op op_sub (pe_ix (ixL K rfl) (pe_ix (ixL K rfl) (pv 0) (pv 8) (fun _ _ => rfl)) (pv 9) (fun _ _ => rfl)) (pe_ix (ixL K rfl) (pv 3) (pv 8) (fun _ _ => rfl))) (pe_ix (ixL K rfl) (pv 4) (pv 9) (fun _ _ => rfl))))
            (pss_one (ps_if (pw_or (pt_cmpR op_isN (pe_ix (ixL K rfl) (pv 5) (pv 9) (fun _ _ => rfl)) pe_non (nomark _)) (pw_or1 (pt_cmpR op_lt (pv 10) (pe_ix (ixL K rfl) (pv 5) (pv 9) (fun _ _ => rfl)) (nomark _)))).pt
              (pss_one (ps_asg (pe_tup (pa_cons (pv 10) (pa_cons (pv 1) pa_nil))) (pg_tup rfl (pgs_cons (pg_sub (pv 5) (pv 9) set_list) (pgs_cons (pg_sub (pv 6) (pv 9) set_list) pgs_nil)))))
              pss_nil))) pss_nil)))
      (pss_cons (ps_setLc (i := 11) (own := [("other", 9)]) (g := gName 9) rfl scOs.nd rfl rfl (sw_true rfl rfl rfl (by decide +kernel)) (pi_range1 (by rfl) B.range (pa_cons (pe_callB (lenQ K rfl) (by rfl) B.len (by decide +kernel) (pa_cons (pe_ix (ixL K rfl) (pv 0) (pv 8) (fun _ _ => rfl)) pa_nil)) pa_nil))
          (blkOk_by (N := nOs) (sc := defScope sOs) (by decide +kernel)) (fun _ _ _ _ _ => pg_name (i := 9) scOs.nd rfl (Or.inl rfl)) (fun _ _ _ _ _ => pts_one (pt_not (pt_val (pe_ix (ixL K rfl) (pv 7) (pv 9) (fun _ _ => rfl)))))
          (fun _ _ _ _ _ => pe_tup (pa_cons (pe_ix (ixL K rfl) (pv 5) (pv 9) (fun _ _ => rfl)) (pa_cons (pv 9) pa_nil))))
      (pss_cons (ps_asg (pe_callB (cr_minP rfl (by have := hu65 hr; exact Nat.lt_of_le_of_lt (Nat.add_le_add_left (by decide) _) this)) (by rfl) B.min (by decide +kernel) (pa_cons (pv 11) pa_nil)) (pg_tup rfl (pgs_cons (pg_name (i := 12) scOs.nd rfl (.inl rfl)) (pgs_cons (pg_name (i := 13) scOs.nd rfl (.inl rfl)) pgs_nil))))
      (pss_cons (ps_for PassesOwn.never rfl (pi_range1 (by rfl) B.range (pa_cons (pe_callB (lenQ K rfl) (by rfl) B.len (by decide +kernel) (pa_cons (pv 7) pa_nil)) pa_nil)) (pg_name (i := 9) scOs.nd rfl (.inl rfl))
        (pss_one (ps_if (pt_val (pe_ix (ixL K rfl) (pv 7) (pv 9) (fun _ _ => rfl)))
          (pss_cons (ps_augS (pv 3) (pe_ix (ixL K rfl) (pv 2) (pv 9) (fun _ _ => rfl)) get_list (pv 12) ip_add set_list)
            (pss_one (ps_augS (pv 4) (pv 9) get_list (pv 12) ip_sub set_list)))
          (pss_one (ps_if (pt_cmpR op_notN (pe_ix (ixL K rfl) (pv 5) (pv 9) (fun _ _ => rfl)) pe_non (nomark _))
            (pss_one (ps_augS (pv 5) (pv 9) get_list (pv 12) ip_sub set_list)) pss_nil)))))
      (pss_one (ps_ret (pv 13)))))))), ?_⟩
    obtain ⟨c, rs, rfl, hc, hrs⟩ := hm
    obtain ⟨_, hrv, ra, rfl, hra⟩ := hrs.get (arr_get hpj)
    rw [arr_map] at hra
    -- is_done[column] = True, row = row_of[column]
    refine ⟨_, rfl, _, rfl, setA (g := fun k => V.bl (d1F s.d j0 k)) L.hd (by omega) (fun j _ => by unfold d1F; split <;> rfl) ?_⟩
    have L1 := L.setD ok (d1F s.d j0)
    refine ⟨_, rfl, _, rfl, ixA L1.hp (by omega) ?_⟩
    -- the first loop
    refine ⟨_, rfl, _, rfl, ixX (L1.sm _ _ hc) hrv ⟨ra, _, rfl, .inl (SqL.at_ (L1.sm _ _ hra)), _, rfl, rlo, rhi (alen (by omega)), ?_⟩⟩
    rw [Int.toNat_natCast, arr_length]
    refine for_rg (fun i σ H' => ∃ v9 v10, σ = [some (.ref c), some (.int (j0 : Nat)), some (.ref a.p), some (.ref a.u), some (.ref a.v), some (.ref a.l), some (.ref a.w), some (.ref a.d), some (.int (s.p j0 : Nat)), v9, v10, none, none, none] ∧
        Ls n N H0 a { s with d := d1F s.d j0, l := lF C s.u s.v s.p s.l s.d j0 i, w := wF C s.u s.v s.p s.l s.w s.d j0 i } H') ⟨none, none, rfl, by rw [lF_zero, wF_zero]; exact L1⟩ ?_ ?_
    · rintro i _ H1 hi ⟨v9, v10, rfl, L2⟩
      refine ⟨_, rfl, _, rfl, ixA L2.hd (by omega) ⟨_, rfl, ?_⟩⟩
      have el : lF C s.u s.v s.p s.l s.d j0 i i = s.l i := lF_at
      refine ifB (fun z => ?_) (fun z => ?_)
      · have od : d1F s.d j0 i = false := by simpa using z
        refine ⟨_, rfl, _, rfl, ixX (L2.sm _ _ hc) hrv ⟨_, rfl, ixA (L2.sm _ _ hra) hi ⟨_, rfl, _, rfl, ixA L2.hu (by omega) ⟨_, _, rfl, rfl, ⟨_, rfl, _, rfl, ixA L2.hv (by omega) ⟨_, _, rfl, rfl, ?_⟩⟩⟩⟩⟩⟩
        refine ⟨_, rfl, _, rfl, ixA L2.hl (by omega) ⟨rfl, _, rfl, ?_⟩⟩
        refine ifB (fun z1 => ?_) (fun z1 => ?_)
        · have e1 : s.l i = none := by rw [← el]; exact oV_non (of_decide_eq_true z1)
          have hb : bet (s.l i) (hereF C s.u s.v s.p j0 i) = true := by rw [e1]; rfl
          refine ifB (fun _ => ?_) (fun z => absurd z (by decide))
          refine ⟨_, rfl, _, rfl, lineN (by simp), fun T nT => ?_⟩
          have L3 := L2.to (same_new (o := .tup [V.int (hereF C s.u s.v s.p j0 i), V.int (j0 : Nat)]) nT)
          refine ⟨T, _, rfl, SqT.at_ upd_same, rfl, _, _, rfl, _, rfl, _, rfl, setA (g := fun k => oV (lF C s.u s.v s.p s.l s.d j0 (i + 1) k)) L3.hl (by omega) (fun k _ => by rw [(lF_take (w := s.w) ⟨od, hb⟩).1 k]; split <;> rfl) ?_⟩
          have L4 := L3.setL ok (lF C s.u s.v s.p s.l s.d j0 (i + 1))
          refine ⟨_, _, rfl, _, rfl, _, rfl, setA (g := fun k => V.int (wF C s.u s.v s.p s.l s.w s.d j0 (i + 1) k : Nat)) L4.hw (by omega) (fun k _ => by rw [(lF_take (w := s.w) ⟨od, hb⟩).2 k]; split <;> rfl) ?_⟩
          exact ⟨rfl, _, _, rfl, L4.setW ok (wF C s.u s.v s.p s.l s.w s.d j0 (i + 1))⟩
        · obtain ⟨x, e1⟩ : ∃ x, lF C s.u s.v s.p s.l s.d j0 i i = some x := oV_some (of_decide_eq_false z1)
          refine ⟨_, rfl, _, rfl, _, rfl, ixA L2.hl (by omega) ⟨_, x, rfl, by show oV (lF C s.u s.v s.p s.l s.d j0 i i) = _; rw [e1]; rfl, _, rfl, ?_⟩⟩
          rw [el] at e1
          refine ifB (fun z2 => ?_) (fun z2 => ?_)
          · have hb : bet (s.l i) (hereF C s.u s.v s.p j0 i) = true := by rw [e1]; exact z2
            refine ⟨_, rfl, _, rfl, lineN (by simp), fun T nT => ?_⟩
            have L3 := L2.to (same_new (o := .tup [V.int (hereF C s.u s.v s.p j0 i), V.int (j0 : Nat)]) nT)
            refine ⟨T, _, rfl, SqT.at_ upd_same, rfl, _, _, rfl, _, rfl, _, rfl, setA (g := fun k => oV (lF C s.u s.v s.p s.l s.d j0 (i + 1) k)) L3.hl (by omega) (fun k _ => by rw [(lF_take (w := s.w) ⟨od, hb⟩).1 k]; split <;> rfl) ?_⟩
            have L4 := L3.setL ok (lF C s.u s.v s.p s.l s.d j0 (i + 1))
            refine ⟨_, _, rfl, _, rfl, _, rfl, setA (g := fun k => V.int (wF C s.u s.v s.p s.l s.w s.d j0 (i + 1) k : Nat)) L4.hw (by omega) (fun k _ => by rw [(lF_take (w := s.w) ⟨od, hb⟩).2 k]; split <;> rfl) ?_⟩
            exact ⟨rfl, _, _, rfl, L4.setW ok (wF C s.u s.v s.p s.l s.w s.d j0 (i + 1))⟩
          · obtain ⟨q1, q2⟩ := lF_stay (C := C) (u := s.u) (v := s.v) (p := s.p) (l := s.l) (w := s.w) (d := s.d) (j0 := j0) (i := i) fun h => by
              have y := h.2
              rw [e1] at y
              have y' : decide (hereF C s.u s.v s.p j0 i < x) = true := y
              have z' : decide (hereF C s.u s.v s.p j0 i < x) = false := z2
              rw [y'] at z'; cases z'
            exact ⟨_, _, rfl, by rw [q1, q2]; exact L2⟩
      · have od : d1F s.d j0 i = true := by simpa using z
        obtain ⟨q1, q2⟩ := lF_stay (C := C) (u := s.u) (v := s.v) (p := s.p) (l := s.l) (w := s.w) (d := s.d) (j0 := j0) (i := i) fun h => by rw [od] at h; cases h.1
        exact ⟨_, _, rfl, by rw [q1, q2]; exact L2⟩
    · rintro _ H1 ⟨v9, v10, rfl, L2⟩
      refine ⟨_, rfl, _, rfl, ixX (L2.sm _ _ hc) hrv ⟨ra, _, rfl, .inl (SqL.at_ (L2.sm _ _ hra)), _, rfl, rlo, rhi (alen (by omega)), ?_⟩⟩
      rw [Int.toNat_natCast, arr_length]
      intro D nD
      refine lcT walk_rg (fun i acc H' => ∃ ps : List (Addr × Int × Int), acc = ps.map (fun p => V.ref p.1) ∧ (∀ q ∈ ps, H' q.1 = some (.tup [.int q.2.1, .int q.2.2])) ∧
          (∀ q ∈ ps, ∃ o : Nat, o < i ∧ q.2.2 = (o : Int) ∧ d1F s.d j0 o = false ∧ lF C s.u s.v s.p s.l s.d j0 N o = some q.2.1) ∧
          ∀ o, o < i → d1F s.d j0 o = false → ∃ q ∈ ps, lF C s.u s.v s.p s.l s.d j0 N o = some q.2.1) (by omega) nD ?_ ?_ (fun _ _ => trivial) ?_ ?_
      · rintro i acc Ha Hb t ⟨ps, p1, p2, p3, p4⟩
        exact ⟨ps, p1, fun q hq => t _ _ (p2 q hq), p3, p4⟩
      · exact ⟨[], rfl, fun q hq => absurd hq List.not_mem_nil, fun q hq => absurd hq List.not_mem_nil, fun o ho => absurd ho (by omega)⟩
      · rintro i x H2 _ acc hi sH ⟨ps, rfl, p2, p3, p4⟩ ⟨rfl, rfl⟩ Ky Kn ky kn
        have L3 := L2.to sH
        refine ⟨rfl, ?_⟩
        refine ⟨_, rfl, _, rfl, ixA L3.hd (by omega) ⟨_, rfl, ?_⟩⟩
        refine ifB (fun z => ?_) (fun z => ?_)
        · have od : d1F s.d j0 i = false := by simpa using z
          obtain ⟨y, ey⟩ := lF_some (C := C) (u := s.u) (v := s.v) (p := s.p) (l := s.l) hi od
          refine ⟨_, rfl, _, rfl, ixA L3.hl (by omega) ⟨_, rfl, lineN (by simp), fun T nT => ky _ _ (same_new nT) ?_⟩⟩
          refine ⟨ps ++ [(T, y, (i : Int))], by simp, fun q hq => ?_, fun q hq => ?_, fun o ho hd => ?_⟩
          · rcases List.mem_append.mp hq with hq | hq
            · exact same_new nT _ _ (p2 q hq)
            · rw [List.mem_singleton.mp hq, upd_same]
              show some (HO.tup [oV (lF C s.u s.v s.p s.l s.d j0 N i), _]) = _
              rw [ey]; rfl
          · rcases List.mem_append.mp hq with hq | hq
            · obtain ⟨o, o1, o2⟩ := p3 q hq
              exact ⟨o, by omega, o2⟩
            · rw [List.mem_singleton.mp hq]
              exact ⟨i, by omega, rfl, od, ey⟩
          · by_cases e : o = i
            · subst e
              exact ⟨_, List.mem_append_right _ List.mem_cons_self, ey⟩
            · obtain ⟨q, q1, q2⟩ := p4 o (by omega) hd
              exact ⟨q, List.mem_append_left _ q1, q2⟩
        · have od : d1F s.d j0 i = true := by simpa using z
          refine kn _ (.refl _) ⟨ps, rfl, p2, fun q hq => ?_, fun o ho hd => ?_⟩
          · obtain ⟨o, o1, o2⟩ := p3 q hq
            exact ⟨o, by omega, o2⟩
          · by_cases e : o = i
            · rw [e, od] at hd; cases hd
            · exact p4 o (by omega) hd
      · rintro H2 _ sH hD _ ⟨ps, rfl, p2, p3, p4⟩
        have L3 := L2.to sH
        have hne : ps ≠ [] := by
          obtain ⟨o, o1, o2, o3⟩ := hop
          obtain ⟨q, q1, _⟩ := p4 o o1 (by unfold d1F; rw [if_neg o2]; exact o3)
          intro e; rw [e] at q1; cases q1
        refine ⟨_, rfl, D, ps, rfl, SqL.at_ hD, fun q hq => SqT.at_ (p2 q hq), hne, fun q hq hmin => ?_⟩
        obtain ⟨best, b1, b2, b3, b4⟩ := p3 q hq
        refine ⟨q.1, _, rfl, SqT.at_ (p2 q hq), rfl, _, _, rfl, _, _, rfl, rfl, ?_⟩
        rw [b2]
        refine ⟨_, rfl, a.d, _, rfl, .inl (SqL.at_ L3.hd), _, rfl, rlo, rhi (alen (by omega)), ?_⟩
        rw [Int.toNat_natCast, arr_length]
        refine for_rg (fun i σ H' => ∃ v9 v10, σ = [some (.ref c), some (.int (j0 : Nat)), some (.ref a.p), some (.ref a.u), some (.ref a.v), some (.ref a.l), some (.ref a.w), some (.ref a.d), some (.int (s.p j0 : Nat)), v9, v10, some (.ref D), some (.int q.2.1), some (.int (best : Nat))] ∧
          Ls n N H0 a { p := s.p, u := uF s.u s.p s.d j0 q.2.1 i, v := vF s.v s.d j0 q.2.1 i, l := l2F s.d j0 q.2.1 (lF C s.u s.v s.p s.l s.d j0 N) i, w := wF C s.u s.v s.p s.l s.w s.d j0 N, d := d1F s.d j0 } H') ⟨v9, v10, rfl, by rw [uF_zero, vF_zero, l2F_zero]; exact L3⟩ ?_ ?_
        · rintro i _ H3 hi ⟨v9, v10, rfl, L4⟩
          refine ⟨_, rfl, _, rfl, ixA L4.hd (by omega) ⟨_, rfl, ?_⟩⟩
          refine ifB (fun od => ?_) (fun od => ?_)
          · have hin : ∀ o, o < i → d1F s.d j0 o = true → s.p o ≠ s.p i := fun o ho hd e => by
              have := inj o i (by omega) (by omega) (d1_or hd) (d1_or od) e
              omega
            obtain ⟨u1, u2⟩ := uF_done (u := s.u) (st := q.2.1) od hin
            have lp : s.p i < n + 1 := by have := hpn i (by omega); omega
            refine ⟨_, rfl, _, rfl, _, rfl, ixA L4.hp (by omega) (ixA L4.hu lp ⟨_, rfl, _, _, rfl, rfl, setA (g := fun k => V.int (uF s.u s.p s.d j0 q.2.1 (i + 1) k)) L4.hu lp (fun k _ => ?_) ?_⟩)⟩
            · show V.int _ = if k = s.p i then V.int (uF s.u s.p s.d j0 q.2.1 i (s.p i) + q.2.1) else V.int (uF s.u s.p s.d j0 q.2.1 i k)
              rw [u2 k, u1]; split <;> rfl
            have L5 := L4.setU ok (uF s.u s.p s.d j0 q.2.1 (i + 1))
            refine ⟨_, rfl, _, rfl, ixA L5.hv (by omega) ⟨_, rfl, _, _, rfl, rfl, setA (g := fun k => V.int (vF s.v s.d j0 q.2.1 (i + 1) k)) L5.hv (by omega) (fun k _ => ?_) ?_⟩⟩
            · show V.int _ = if k = i then V.int (vF s.v s.d j0 q.2.1 i i - q.2.1) else V.int (vF s.v s.d j0 q.2.1 i k)
              rw [vF_done od k, vF_at]; split <;> rfl
            refine ⟨_, _, rfl, ?_⟩
            rw [l2F_done (.inl od)]
            exact L5.setV ok (vF s.v s.d j0 q.2.1 (i + 1))
          · have el : l2F s.d j0 q.2.1 (lF C s.u s.v s.p s.l s.d j0 N) i i = lF C s.u s.v s.p s.l s.d j0 N i := l2F_at
            refine ⟨_, rfl, _, rfl, ixA L4.hl (by omega) ⟨rfl, _, rfl, ?_⟩⟩
            refine ifB (fun z => ?_) (fun z => ?_)
            · obtain ⟨y, e1⟩ := oV_some (by simpa using z)
              refine ⟨_, rfl, _, rfl, ixA L4.hl (by omega) ⟨_, rfl, y, _, by show oV (l2F s.d j0 q.2.1 (lF C s.u s.v s.p s.l s.d j0 N) i i) = _; rw [e1]; rfl, rfl, setA (g := fun k => oV (l2F s.d j0 q.2.1 (lF C s.u s.v s.p s.l s.d j0 N) (i + 1) k)) L4.hl (by omega) (fun k _ => ?_) ?_⟩⟩
              · rw [el] at e1
                rw [l2F_open od e1 k]; split <;> rfl
              refine ⟨_, _, rfl, ?_⟩
              rw [uF_open od, vF_open od]
              exact L4.setL ok (l2F s.d j0 q.2.1 (lF C s.u s.v s.p s.l s.d j0 N) (i + 1))
            · have e1 : lF C s.u s.v s.p s.l s.d j0 N i = none := by rw [← el]; exact oV_non (by simpa using z)
              refine ⟨_, _, rfl, ?_⟩
              rw [uF_open od, vF_open od, l2F_done (.inr e1)]
              exact L4
        · rintro _ H3 ⟨v9, v10, rfl, L4⟩
          have en : l2F s.d j0 q.2.1 (lF C s.u s.v s.p s.l s.d j0 N) (N + 1) N = none := by
            have z : lF C s.u s.v s.p s.l s.d j0 N N = none := by rw [lF_at]; exact hlN
            unfold l2F
            rw [z]; split <;> rfl
          refine ⟨_, rfl, k _ { p := s.p, u := uF s.u s.p s.d j0 q.2.1 (N + 1), v := vF s.v s.d j0 q.2.1 (N + 1), l := l2F s.d j0 q.2.1 (lF C s.u s.v s.p s.l s.d j0 N) (N + 1), w := wF C s.u s.v s.p s.l s.w s.d j0 N, d := d1F s.d j0 } best q.2.1 _ rfl L4 en (stepR_of (fun o k ho hk d1 d2 e => inj o k ho hk (d1_or d1) (d1_or d2) e) b1 b3 b4 fun o x ho hd hx => ?_)⟩
          obtain ⟨q', q1, q2⟩ := p4 o ho hd
          have := hmin q' q1
          rw [hx] at q2
          cases q2
          exact this
end
end Lo

namespace Lo
open PySem PySem.Spec PyProof.Rows L2
section
variable {P : Program} {w : World} {K : PySem.W.Frag} {mg : Str → Option Value} {base : Heap}
/-! ### matched -/
abbrev sMa : Stmt := topS 6
abbrev nMa : List Str := ["costs", "columns", "rows", "of_rows", "of_columns", "row_of", "row", "column", "least", "ahead", "is_done", "found"]
theorem scMa : FnScope nMa ["costs", "columns"] (defScope sMa) := ⟨rfl, rfl, rfl, by decide +kernel, rfl, by decide +kernel, by decide +kernel⟩
def spMa : Sp := fun vs H Q _ => ∃ (x : V) (C : Nat → Nat → Int) (n N : Nat), vs = [x, .int (N : Nat)] ∧ Mat H x (arr n fun i => arr N (C i)) ∧ n ≤ N ∧ N ≤ 900 ∧
  ∀ H' p a b c f u v, Same H H' → H' p = some (.tup [.ref a, .ref b, .ref c]) → H' a = some (.lst (arr n fun i => V.int (f i : Nat))) → H' b = some (.lst (arr n fun i => V.int (u i))) → H' c = some (.lst (arr N fun i => V.int (v i))) → Found n N C u v f → Q (.ref p) H'
/-- between two rows: three lists -/
structure O3 (n N : Nat) (H0 : Hp) (ap au av : Addr) (p : Nat → Nat) (u v : Nat → Int) (H : Hp) : Prop where
  sm : Same H0 H
  hp : H ap = some (.lst (arr (N + 1) fun k => V.int (p k : Nat)))
  hu : H au = some (.lst (arr (n + 1) fun k => V.int (u k)))
  hv : H av = some (.lst (arr (N + 1) fun k => V.int (v k)))
  np : H0 ap = none
  nu : H0 au = none
  nv : H0 av = none
  d1 : ap ≠ au
  d2 : ap ≠ av
  d3 : au ≠ av
section
variable {n N : Nat} {H0 H : Hp} {ap au av : Addr} {p : Nat → Nat} {u v : Nat → Int}
theorem O3.to (h : O3 n N H0 ap au av p u v H) {H' : Hp} (k : Same H H') : O3 n N H0 ap au av p u v H' := { h with sm := h.sm.trans k, hp := k _ _ h.hp, hu := k _ _ h.hu, hv := k _ _ h.hv }
theorem O3.setP (h : O3 n N H0 ap au av p u v H) (f : Nat → Nat) : O3 n N H0 ap au av f u v (upd H ap (.lst (arr (N + 1) fun k => V.int (f k : Nat)))) :=
  { h with sm := same_at h.sm h.np, hp := upd_same, hu := (upd_ne (Ne.symm h.d1)).trans h.hu, hv := (upd_ne (Ne.symm h.d2)).trans h.hv }
theorem O3.at_ (h : O3 n N H0 ap au av p u v H) {a : Addr} {o : HO} (e0 : H0 a = none) (e1 : ap ≠ a) (e2 : au ≠ a) (e3 : av ≠ a) : O3 n N H0 ap au av p u v (upd H a o) :=
  { h with sm := same_at h.sm e0, hp := (upd_ne e1).trans h.hp, hu := (upd_ne e2).trans h.hu, hv := (upd_ne e3).trans h.hv }
theorem O3.ls (h : O3 n N H0 ap au av p u v H) {H' : Hp} {l w d : Addr} (k : Same H H') (nl : H l = none) (nw : H w = none) (nd : H d = none) (e1 : l ≠ w) (e2 : l ≠ d) (e3 : w ≠ d) {fL : Nat → Option Int} {fW : Nat → Nat} {fD : Nat → Bool}
    (hl : H' l = some (.lst (arr (N + 1) fun k => oV (fL k)))) (hw : H' w = some (.lst (arr (N + 1) fun k => V.int (fW k : Nat)))) (hd : H' d = some (.lst (arr (N + 1) fun k => V.bl (fD k)))) :
    As.Ok ⟨ap, au, av, l, w, d⟩ H0 ∧ Ls n N H0 ⟨ap, au, av, l, w, d⟩ ⟨p, u, v, fL, fW, fD⟩ H' := by
  refine ⟨⟨h.np, h.nu, h.nv, same_none h.sm nl, same_none h.sm nw, same_none h.sm nd, ?_⟩, ⟨h.sm.trans k, k _ _ h.hp, k _ _ h.hu, k _ _ h.hv, hl, hw, hd⟩⟩
  simp only [List.nodup_cons, List.mem_cons, List.not_mem_nil, or_false, not_or]
  exact ⟨⟨h.d1, h.d2, ne_new h.hp nl, ne_new h.hp nw, ne_new h.hp nd⟩, ⟨h.d3, ne_new h.hu nl, ne_new h.hu nw, ne_new h.hu nd⟩, ⟨ne_new h.hv nl, ne_new h.hv nw, ne_new h.hv nd⟩, ⟨e1, e2⟩, e3, not_false, List.nodup_nil⟩
end
theorem ok_ma (h : Has K mg "matched" sMa ["costs", "columns"]) (B : Bl mg) (G : Kept P w K mg base 1 "one_step" aOs spOs) : Kept P w K mg base 2 "matched" ["costs", "columns"] spMa := by
  refine h.kept fun f fd F => F.ok scMa (fun vs H Q E h => ?_) (fun cdv A outer s H vs Q E hr h => ?_)
  · obtain ⟨x, C, n, N, rfl, _⟩ := h
    rfl
  · obtain ⟨x, C, n, N, rfl, hm, hnN, hN, k⟩ := h
    refine ⟨_, pss_cons (ps_set (i := 2) scMa.nd rfl (.inl rfl) (pe_callB (lenQ K rfl) (by rfl) B.len (by decide +kernel) (pa_cons (pv 0) pa_nil)))
      (pss_cons (ps_par3 (i := 3) (j := 4) (l := 5) rfl scMa.nd rfl rfl rfl (by decide) (by decide) (by decide) rfl rfl rfl
          (pa_cons (pe_op op_rep (pe_lst (pa_cons pe_int pa_nil)) (pe_op op_add (pv 2) pe_int)) (pa_cons (pe_op op_rep (pe_lst (pa_cons pe_int pa_nil)) (pe_op op_add (pv 1) pe_int)) (pa_cons (pe_op op_rep (pe_lst (pa_cons (pv 2) pa_nil)) (pe_op op_add (pv 1) pe_int)) pa_nil))) rfl)
      (pss_cons (ps_for PassesOwn.never rfl (pi_range1 (by rfl) B.range (pa_cons (pv 2) pa_nil)) (pg_name (i := 6) scMa.nd rfl (.inl rfl))
        (pss_cons (ps_asg (pv 6) (pg_sub (pv 5) (pv 1) set_list))
        (pss_cons (ps_set (i := 7) scMa.nd rfl (.inl rfl) (pv 1))
        (pss_cons (ps_par3 (i := 8) (j := 9) (l := 10) rfl scMa.nd rfl rfl rfl (by decide) (by decide) (by decide) rfl rfl rfl
          (pa_cons (pe_op op_rep (pe_lst (pa_cons pe_non pa_nil)) (pe_op op_add (pv 1) pe_int)) (pa_cons (pe_op op_rep (pe_lst (pa_cons (pv 1) pa_nil)) (pe_op op_add (pv 1) pe_int)) (pa_cons (pe_op op_rep (pe_lst (pa_cons pe_bl pa_nil)) (pe_op op_add (pv 1) pe_int)) pa_nil))) rfl)
        (pss_cons (ps_while PassesOwn.never (pt_cmpR op_ne (pe_ix (ixL K rfl) (pv 5) (pv 7) (fun _ _ => rfl)) (pv 2) (nomark _))
          (pss_one (ps_set (i := 7) scMa.nd rfl (.inl rfl) (pcall G hr (by rfl) (pa_cons (pv 0) (pa_cons (pv 7) (pa_cons (pv 5) (pa_cons (pv 3) (pa_cons (pv 4) (pa_cons (pv 8) (pa_cons (pv 9) (pa_cons (pv 10) pa_nil)))))))))))) 
        (pss_cons (ps_while PassesOwn.never (pt_cmpR op_ne (pv 7) (pv 1) (nomark _))
          (pss_cons (ps_asg (pe_ix (ixL K rfl) (pv 5) (pe_ix (ixL K rfl) (pv 9) (pv 7) (fun _ _ => rfl)) (fun _ _ => rfl)) (pg_sub (pv 5) (pv 7) set_list))
          (pss_one (ps_set (i := 7) scMa.nd rfl (.inl rfl) (pe_ix (ixL K rfl) (pv 9) (pv 7) (fun _ _ => rfl))))))
        (pss_one (ps_asg (pv 2) (pg_sub (pv 5) (pv 1) set_list)))))))))
      (pss_cons (ps_set (i := 11) scMa.nd rfl (.inl rfl) (pe_op op_rep (pe_lst (pa_cons pe_int pa_nil)) (pv 2)))
      (pss_cons (ps_for PassesOwn.never rfl (pi_range1 (by rfl) B.range (pa_cons (pv 1) pa_nil)) (pg_name (i := 7) scMa.nd rfl (.inl rfl))
        (pss_one (ps_if (pt_cmpR op_ne (pe_ix (ixL K rfl) (pv 5) (pv 7) (fun _ _ => rfl)) (pv 2) (nomark _))
          (pss_one (ps_asg (pv 7) (pg_sub (pv 11) (pe_ix (ixL K rfl) (pv 5) (pv 7) (fun _ _ => rfl)) set_list))) pss_nil)))
      (pss_one (ps_ret (pe_tup (pa_cons (pv 11) (pa_cons (pe_slice sl_list (pv 3) po_none (po_some (pv 2))) (pa_cons (pe_slice sl_list (pv 4) po_none (po_some (pv 1))) pa_nil)))))))))), ?_⟩
    have hm' := hm
    obtain ⟨c, rs, rfl, hc, hrs⟩ := hm
    have hrl : rs.length = n := by rw [hrs.1, arr_length]
    refine ⟨_, rfl, c, rs, rfl, .inl (SqL.at_ hc), ?_⟩
    rw [hrl]
    refine ⟨lineN (by simp), fun q1 n1 => ⟨_, rfl, _, _, rfl, rfl, repA (n := n + 1) upd_same (by omega) (by omega) fun au nu => ?_⟩⟩
    refine ⟨lineN (by simp), fun q2 n2 => ⟨_, rfl, _, _, rfl, rfl, repA (n := N + 1) upd_same (by omega) (by omega) fun av nv => ?_⟩⟩
    refine ⟨_, rfl, lineN (by simp), fun q3 n3 => ⟨_, rfl, _, _, rfl, rfl, repA (n := N + 1) upd_same (by omega) (by omega) fun ap np => ?_⟩⟩
    refine ⟨_, _, _, rfl, ?_⟩
    have sA := (same_new (o := .lst [V.int 0]) n1).trans (same_new (o := .lst (arr (n + 1) fun _ => V.int 0)) nu)
    have sB := (same_new (o := .lst [V.int 0]) n2).trans (same_new (o := .lst (arr (N + 1) fun _ => V.int 0)) nv)
    have sC := (same_new (o := .lst [V.int (n : Nat)]) n3).trans (same_new (o := .lst (arr (N + 1) fun _ => V.int (n : Nat))) np)
    have O0 : O3 n N H ap au av (fun _ => n) (fun _ => 0) (fun _ => 0) _ := {
      sm := (sA.trans sB).trans sC
      hp := upd_same
      hu := sC _ _ (sB _ _ upd_same)
      hv := sC _ _ upd_same
      np := same_none ((sA.trans sB).trans (same_new n3)) np
      nu := same_none (same_new n1) nu
      nv := same_none (sA.trans (same_new n2)) nv
      d1 := (ne_new (same_new n3 _ _ (sB _ _ upd_same)) np).symm
      d2 := (ne_new (same_new n3 _ _ upd_same) np).symm
      d3 := ne_new (same_new n2 _ _ upd_same) nv }
    refine ⟨_, rfl, _, rfl, rlo, rhi (by omega), ?_⟩
    rw [Int.toNat_natCast]
    refine for_rg (fun r σ H' => ∃ v6 v7 v8 v9 v10, σ = [some (.ref c), some (.int (N : Nat)), some (.int (n : Nat)), some (.ref au), some (.ref av), some (.ref ap), v6, v7, v8, v9, v10, none] ∧ ∃ p u v, O3 n N H ap au av p u v H' ∧ Ou n N r C u v p) ⟨none, none, none, none, none, rfl, _, _, _, O0, Ou.first n N C (fun _ => rfl) (fun _ => rfl)⟩ ?_ ?_
    · rintro r _ H1 hr1 ⟨v6, v7, v8, v9, v10, rfl, p, u, v, O, ou⟩
      refine ⟨_, rfl, _, rfl, _, rfl, setA (g := fun k => V.int ((if k = N then r else p k : Nat) : Nat)) O.hp (by omega) (fun k _ => by split <;> rfl) ?_⟩
      have O1 := O.setP fun k => if k = N then r else p k
      refine ⟨_, rfl, lineN (by simp), fun q1 n1 => ⟨_, rfl, _, _, rfl, rfl, repA (n := N + 1) upd_same (by omega) (by omega) fun al nl => ?_⟩⟩
      refine ⟨_, rfl, lineN (by simp), fun q2 n2 => ⟨_, rfl, _, _, rfl, rfl, repA (n := N + 1) upd_same (by omega) (by omega) fun aw nw => ?_⟩⟩
      refine ⟨lineN (by simp), fun q3 n3 => ⟨_, rfl, _, _, rfl, rfl, repA (n := N + 1) upd_same (by omega) (by omega) fun ad nd => ?_⟩⟩
      refine ⟨_, _, _, rfl, ?_⟩
      have tA := (same_new (o := .lst [V.non]) n1).trans (same_new (o := .lst (arr (N + 1) fun _ => V.non)) nl)
      have tB := (same_new (o := .lst [V.int (N : Nat)]) n2).trans (same_new (o := .lst (arr (N + 1) fun _ => V.int (N : Nat))) nw)
      have tC := (same_new (o := .lst [V.bl false]) n3).trans (same_new (o := .lst (arr (N + 1) fun _ => V.bl false)) nd)
      obtain ⟨ok, L0⟩ := O1.ls (l := al) (w := aw) (d := ad) ((tA.trans tB).trans tC) (same_none (same_new n1) nl) (same_none (tA.trans (same_new n2)) nw) (same_none ((tA.trans tB).trans (same_new n3)) nd)
        (ne_new (same_new n2 _ _ upd_same) nw) (ne_new (same_new n3 _ _ (tB _ _ upd_same)) nd) (ne_new (same_new n3 _ _ upd_same) nd) (fL := fun _ => none) (fW := fun _ => N) (fD := fun _ => false) (tC _ _ (tB _ _ upd_same)) (tC _ _ upd_same) upd_same
      refine ⟨fun m σ H' => ∃ (s : S6) (j0 : Nat) (rho : Nat → Nat) (m' : Nat), σ = [some (.ref c), some (.int (N : Nat)), some (.int (n : Nat)), some (.ref au), some (.ref av), some (.ref ap), some (.int (r : Nat)), some (.int (j0 : Nat)), some (.ref al), some (.ref aw), some (.ref ad), none] ∧
          Ls n N H ⟨ap, au, av, al, aw, ad⟩ s H' ∧ Se n N r C s.u s.v s.p s.l s.w s.d j0 rho m' ∧ s.l N = none ∧ m = cnt (N + 1) s.d,
        ⟨_, _, N, _, _, rfl, L0, ou.start hr1 (fun _ => rfl) (fun _ => rfl), rfl, rfl⟩, ?_⟩
      rintro m _ H2 ⟨s, j0, rho, m', rfl, L, S, lN, rfl⟩
      have hj0 : j0 ≤ N := by
        rcases S.alt with ⟨e, _⟩ | B
        · omega
        · exact Nat.le_of_lt B.jN
      refine ⟨_, rfl, _, rfl, ixA L.hp (by omega) ⟨_, rfl, rfl, _, rfl, ?_⟩⟩
      refine ifB (fun z => ?_) (fun z => ?_)
      · have hp : s.p j0 ≠ n := fun e => by rw [e] at z; simp at z
        have hpn : ∀ k, k ≤ N → s.p k ≤ n := fun k hk => by
          rcases S.mt.rn k hk (by omega) with q | q <;> omega
        refine ⟨_, fun _ _ h => h, ?_⟩
        refine ⟨_, rfl, _, rfl, _, rfl, _, rfl, _, rfl, _, rfl, _, rfl, _, rfl, .ref c, C, n, N, H, ⟨ap, au, av, al, aw, ad⟩, s, j0, rfl, hm', ok, L, by omega, by omega, hj0, by have := hpn j0 hj0; omega, hpn, fun o k ho hk d1 d2 e => S.mt.inj o k ho hk (by omega) (by omega) e (S.done hr1 hp ho d1), S.open_ hr1 hnN hp, lN, fun H3 s' best st l1 e L' ln R => ?_⟩
        have S' := S.step hr1 hp R
        rw [← e] at S'
        exact ⟨_, cnt_lt (fun k hk => by rw [R.dd]; split <;> first | rfl | exact hk) S.jd (by rw [R.dd, if_pos rfl]) (by omega), s', best, _, _, rfl, L', S', ln, rfl⟩
      · have hp : s.p j0 = n := by
          have y : ((s.p j0 : Nat) : Int) = (n : Int) := by simpa using z
          omega
        refine ⟨fun m σ H' => ∃ (q : Nat → Nat) (j : Nat), σ = [some (.ref c), some (.int (N : Nat)), some (.int (n : Nat)), some (.ref au), some (.ref av), some (.ref ap), some (.int (r : Nat)), some (.int (j : Nat)), some (.ref al), some (.ref aw), some (.ref ad), none] ∧
          Ls n N H ⟨ap, au, av, al, aw, ad⟩ { s with p := q } H' ∧ Au n N r C s.u s.v s.p s.w s.d (rk rho j0 m') q j ∧ m = rk rho j0 m' j, ⟨_, s.p, j0, rfl, L, S.au hr1 hp, rfl⟩, ?_⟩
        rintro m _ H3 ⟨q, j, rfl, L, A, rfl⟩
        have hj := A.jN
        refine ⟨_, rfl, _, rfl, rfl, _, rfl, ?_⟩
        refine ifB (fun z => ?_) (fun z => ?_)
        · have hne : j ≠ N := fun e => by rw [e] at z; simp at z
          obtain ⟨A', lt, wN⟩ := A.step S hr1 hp hne
          refine ⟨_, fun _ _ h => h, ?_⟩
          refine ⟨_, rfl, _, rfl, _, rfl, ixA L.hw (by omega) (ixA L.hp (by show s.w j < N + 1; omega) ⟨_, rfl, _, rfl, setA (g := fun k => V.int ((if k = j then q (s.w j) else q k : Nat) : Nat)) L.hp (by omega) (fun k _ => by split <;> rfl) ?_⟩)⟩
          have L1 := L.setP ok fun k => if k = j then q (s.w j) else q k
          refine ⟨_, rfl, _, rfl, ixA L1.hw (by omega) ?_⟩
          exact ⟨_, lt, _, s.w j, rfl, L1, A', rfl⟩
        · have hje : j = N := by simp at z; omega
          subst hje
          refine ⟨_, rfl, _, rfl, _, rfl, setA (g := fun k => V.int ((if k = j then n else q k : Nat) : Nat)) L.hp (by omega) (fun k _ => by split <;> rfl) ?_⟩
          have L1 := L.setP ok fun k => if k = j then n else q k
          exact ⟨_, _, _, _, _, rfl, _, _, _, { O with sm := L1.sm, hp := L1.hp, hu := L1.hu, hv := L1.hv }, A.done S hr1 hp n⟩
    · rintro _ H1 ⟨v6, v7, v8, v9, v10, rfl, p, u, v, O, ou⟩
      refine ⟨lineN (by simp), fun q1 n1 => ⟨_, rfl, repA (n := n) upd_same rfl (by omega) fun af nf => ?_⟩⟩
      have O1 := O.to (same_new (o := .lst [V.int 0]) n1)
      have e1 := ne_new O1.hp nf
      have e2 := ne_new O1.hu nf
      have e3 := ne_new O1.hv nf
      have e4 : H af = none := same_none (O.sm.trans (same_new n1)) nf
      refine ⟨_, rfl, _, rfl, rlo, rhi (by omega), ?_⟩
      rw [Int.toNat_natCast]
      refine for_rg (fun i σ H' => ∃ v6 v7 v8 v9 v10, σ = [some (.ref c), some (.int (N : Nat)), some (.int (n : Nat)), some (.ref au), some (.ref av), some (.ref ap), v6, v7, v8, v9, v10, some (.ref af)] ∧ O3 n N H ap au av p u v H' ∧ ∃ g : Nat → Nat, H' af = some (.lst (arr n fun k => V.int (g k : Nat))) ∧ ∀ j, j < i → p j ≠ n → g (p j) = j)
        ⟨_, _, _, _, _, rfl, O1.to (same_new nf), fun _ => 0, upd_same, fun j hj => absurd hj (by omega)⟩ ?_ ?_
      · rintro i _ H2 hi ⟨v6, v7, v8, v9, v10, rfl, O2, g, hg, gp⟩
        refine ⟨_, rfl, _, rfl, ixA O2.hp (by omega) ⟨_, rfl, rfl, _, rfl, ?_⟩⟩
        refine ifB (fun z => ?_) (fun z => ?_)
        · have hp : p i ≠ n := fun e => by rw [e] at z; simp at z
          have hl : p i < n := by
            rcases ou.mt.rn i (by omega) (by omega) with q | q
            · exact absurd q hp
            · exact q
          refine ⟨_, rfl, _, rfl, _, rfl, _, rfl, ixA O2.hp (by omega) (setA (g := fun k => V.int ((if k = p i then i else g k : Nat) : Nat)) hg hl (fun k _ => by split <;> rfl) ?_)⟩
          refine ⟨_, _, _, _, _, rfl, O2.at_ e4 e1 e2 e3, _, upd_same, fun j hj hn => ?_⟩
          show (if p j = p i then i else g (p j)) = j
          by_cases e : p j = p i
          · rw [if_pos e]
            exact (ou.mt.inj j i (by omega) (by omega) (by omega) (by omega) e hn).symm
          · rw [if_neg e]
            refine gp j ?_ hn
            by_cases y : j = i
            · rw [y] at e; exact absurd rfl e
            · omega
        · have hp : p i = n := by
            have y : ((p i : Nat) : Int) = (n : Int) := by simpa using z
            omega
          refine ⟨_, _, _, _, _, rfl, O2, g, hg, fun j hj hn => gp j ?_ hn⟩
          by_cases y : j = i
          · rw [y] at hn; exact absurd hp hn
          · omega
      · rintro _ H2 ⟨v6, v7, v8, v9, v10, rfl, O2, g, hg, gp⟩
        refine ⟨_, rfl, _, rfl, _, rfl, _, rfl, au, _, rfl, SqL.at_ O2.hu, fun b nb => ?_⟩
        rw [cut_to, arr_take (by omega)]
        have s1 := same_new (o := .lst (arr n fun k => V.int (u k))) nb
        refine ⟨_, rfl, _, rfl, _, rfl, av, _, rfl, SqL.at_ (s1 _ _ O2.hv), fun d nd => ?_⟩
        rw [cut_to, arr_take (by omega)]
        have s2 := same_new (o := .lst (arr N fun k => V.int (v k))) nd
        refine ⟨lineN (by simp), fun t nt => ?_⟩
        have s3 := same_new (o := .tup [V.ref af, V.ref b, V.ref d]) nt
        exact k _ t af b d g u v (O2.sm.trans ((s1.trans s2).trans s3)) upd_same (s3 _ _ (s2 _ _ (s1 _ _ hg))) (s3 _ _ (s2 _ _ upd_same)) (s3 _ _ upd_same) (ou.found gp)
end
end Lo

namespace Lo
open PySem PySem.Spec PyProof.Rows L2
section
variable {P : Program} {w : World} {K : PySem.W.Frag} {mg : Str → Option Value} {base : Heap}
/-! ### least_found, least_legs, least_price -/
/-- a task -/
structure Job (fs gs ss : List Col) : Prop where
  n1 : 1 ≤ fs.length
  n : fs.length ≤ 50
  g : gs.length ≤ fs.length
  N : fs.length ≤ gs.length + ss.length
  s : ss.length ≤ 50
  bf : ∀ c ∈ fs, Bc c
  bt : ∀ c ∈ gs ++ ss, Bc c
  nd : (gs ++ ss).Nodup
abbrev z2 : Col := (0, 0)
def sqf (fs ts : List Col) (i c : Nat) : Int := sqd (fs.getD i z2) (ts.getD c z2)
def legsOf (fs ts : List Col) (f : Nat → Nat) : List (Col × Col) := arr fs.length fun i => (fs.getD i z2, ts.getD (f i) z2)
theorem row_arr (ts : List Col) (f : Col) : rowOf ts f = arr ts.length fun c => sqd f (ts.getD c z2) := by
  conv => lhs; unfold rowOf; rw [arr_of ts z2]
  rw [arr_map]
theorem rows_arr (fs ts : List Col) : rowsOf fs ts = arr fs.length fun i => arr ts.length (sqf fs ts i) := by
  conv => lhs; unfold rowsOf; rw [arr_of fs z2]
  rw [arr_map]
  exact arr_ext fun i _ => row_arr ts _
abbrev wan (fs gs ss : List Col) (i c : Nat) : Int := if c < gs.length then sqf fs (gs ++ ss) i c - mor fs (gs ++ ss) else sqf fs (gs ++ ss) i c
abbrev aT : List Str := ["froms", "goals", "spare"]
abbrev sLf : Stmt := topS 8
abbrev nLf : List Str := ["froms", "goals", "spare", "costs", "more", "many", "wanted", "row", "at", "cost"]
theorem scLf : FnScope nLf aT (defScope sLf) := ⟨rfl, rfl, rfl, by decide +kernel, rfl, by decide +kernel, by decide +kernel⟩
abbrev scLf1 : Scope := { kind := .function, names := [(".0", .local), ("row", .local), ("enumerate", .globalImplicit), ("many", .cell), ("more", .cell)], isGenerator := false, isCoroutine := false }
def spLf : Sp := fun vs H Q _ => ∃ (x y z : V) (fs gs ss : List Col), vs = [x, y, z] ∧ Cols H x fs ∧ Cols H y gs ∧ Cols H z ss ∧ Job fs gs ss ∧
  ∀ H' p a b c f u v, Same H H' → H' p = some (.tup [.ref a, .ref b, .ref c]) → H' a = some (.lst (arr fs.length fun i => V.int (f i : Nat))) → H' b = some (.lst (arr fs.length fun i => V.int (u i))) → H' c = some (.lst (arr (gs ++ ss).length fun i => V.int (v i))) →
    Found fs.length (gs ++ ss).length (wan fs gs ss) u v f → Q (.ref p) H'
theorem ok_lf (h : Has K mg "least_found" sLf aT) (B : Bl mg) (G1 : Kept P w K mg base 2 "costs_of" aT spCo) (G2 : Kept P w K mg base 2 "matched" ["costs", "columns"] spMa) : Kept P w K mg base 3 "least_found" aT spLf := by
  refine h.kept fun f fd F => F.ok scLf (fun vs H Q E h => ?_) (fun cdv A outer s H vs Q E hr h => ?_)
  · obtain ⟨x, y, z, fs, gs, ss, rfl, _⟩ := h
    rfl
  · obtain ⟨x, y, z, fs, gs, ss, rfl, hx, hy, hz, J, k⟩ := h
    refine ⟨_, pss_cons (ps_asg (pcall G1 hr (by rfl) (pa_cons (pv 0) (pa_cons (pv 1) (pa_cons (pv 2) pa_nil)))) (pg_tup rfl (pgs_cons (pg_name (i := 3) scLf.nd rfl (.inl rfl)) (pgs_cons (pg_name (i := 4) scLf.nd rfl (.inr rfl)) pgs_nil))))
      (pss_cons (ps_set (i := 5) scLf.nd rfl (.inr rfl) (pe_callB (lenQ K rfl) (by rfl) B.len (by decide +kernel) (pa_cons (pv 1) pa_nil)))
      (pss_cons (ps_setLc (i := 6) (own := [("row", 7)]) (g := gName 7) (tt := tYes) rfl scLf.nd rfl rfl (sw_true rfl rfl rfl (by decide +kernel)) (pi_list (pv 3)) (blkOk_by (N := nLf) (sc := defScope sLf) (by decide +kernel)) (fun _ _ _ _ _ => pg_name (i := 7) scLf.nd rfl (Or.inl rfl)) (fun _ _ _ _ _ => pts_nil)
          (fun _ _ _ _ _ => pe_lc (wi := iEnB false K (tCons (tVar 7) tNil)) (own := [("at", 8), ("cost", 9)]) (g := gTup K 2 (gCons (gName 8) (gCons (gName 9) gNil))) (tt := tYes) rfl scLf.nd (pi_enB false (by rfl) B.enumerate (pa_cons (pv 7) pa_nil)) (blkOk_by (N := nLf) (sc := scLf1) (by decide +kernel))
            (fun _ _ _ _ _ => pg_tup rfl (pgs_cons (pg_name (i := 8) scLf.nd rfl (Or.inl rfl)) (pgs_cons (pg_name (i := 9) scLf.nd rfl (Or.inl rfl)) pgs_nil))) (fun _ _ _ _ _ => pts_nil)
            (fun _ _ _ _ _ => pe_ifExp (pt_cmpR op_lt (pv 8) (pv 5) (nomark _)) (pe_op op_sub (pv 9) (pv 4)) (pv 9))))
      (pss_one (ps_ret (pcall G2 hr (by rfl) (pa_cons (pv 6) (pa_cons (pe_op op_add (pe_callB (lenQ K rfl) (by rfl) B.len (by decide +kernel) (pa_cons (pv 1) pa_nil)) (pe_callB (lenQ K rfl) (by rfl) B.len (by decide +kernel) (pa_cons (pv 2) pa_nil))) pa_nil))))))), ?_⟩
    have hgl := J.g
    have hnl := J.n
    have hsl := J.s
    have hN : (gs ++ ss).length = gs.length + ss.length := List.length_append
    have hy0 := hy
    have hz0 := hz
    obtain ⟨yp, yv, rfl, hyp, hys⟩ := hy
    obtain ⟨zp, zv, rfl, hzp, hzs⟩ := hz
    refine ⟨_, rfl, _, rfl, _, rfl, x, _, _, fs, gs, ss, rfl, hx, hy0, hz0, by omega, by omega, by omega, J.bf, J.bt, fun H1 p c s1 hp hm => ?_⟩
    refine ⟨p, _, rfl, SqT.at_ hp, rfl, _, _, rfl, _, _, rfl, rfl, ?_⟩
    refine ⟨_, rfl, yp, yv, rfl, .inr (SqT.at_ (s1 _ _ hyp)), ?_⟩
    rw [hys.1]
    rw [rows_arr] at hm
    obtain ⟨ca, rs, rfl, hca, hrs⟩ := hm
    have hrl : rs.length = fs.length := by rw [hrs.1, arr_length]
    refine ⟨_, rfl, ca, rfl, ⟨_, SqL.at_ hca⟩, fun D nD => ?_⟩
    refine lcS (walk_list (K := K) (a := ca) (xs := rs)) (fun i acc H' => Seq (IL H') acc (arr i fun i => arr (gs ++ ss).length (wan fs gs ss i))) (by omega) nD (fun _ _ _ _ t v => v.mono fun _ _ r => r.mono t) Seq.nil (fun H' s => SqL.at_ (s _ _ hca)) ?_ ?_
    · rintro i u H2 _ acc hi s2 dD v ⟨rfl, hu⟩ Ky Kn ky kn
      obtain ⟨r, hr1, ra, rfl, hra⟩ := hrs.get' hu
      rw [arr_get (by omega)] at hr1
      cases hr1
      refine ⟨rfl, ?_⟩
      refine ⟨_, rfl, ra, _, rfl, SqL.at_ (s2 _ _ hra), fun D2 nD2 => ?_⟩
      refine lcT (walk_enB (K := K) (b := false) (a := ra)) (fun j acc2 _ => acc2 = (arr j (wan fs gs ss i)).map V.int) (by rw [List.length_map, arr_length]; omega) nD2 (fun _ _ _ _ _ v => v) rfl (fun H' s => SqL.at_ (s _ _ (s2 _ _ hra))) ?_ ?_
      · rintro j _ H3 _ acc2 hj s3 rfl ⟨T, x1, y1, rfl, nT, rfl, e1, e2⟩ Ky2 Kn2 ky2 kn2
        cases e1
        rw [List.length_map, arr_length] at hj
        have e2 : ((arr (gs ++ ss).length (sqf fs (gs ++ ss) i)).map V.int)[j]? = some y1 := e2
        rw [arr_map, arr_get hj] at e2
        cases e2
        refine ⟨T, _, rfl, SqT.at_ upd_same, rfl, _, _, rfl, _, _, rfl, rfl, rfl, ?_⟩
        refine ⟨_, rfl, _, rfl, _, _, rfl, rfl, _, rfl, ?_⟩
        refine ifB (fun z => ?_) (fun z => ?_)
        · have z : j < gs.length := by have := of_decide_eq_true z; omega
          refine ⟨_, rfl, _, rfl, _, _, rfl, rfl, ky2 _ _ (same_new nT) ?_⟩
          rw [arr_succ, List.map_append]
          show _ = _ ++ [V.int (if j < gs.length then _ else _)]
          rw [if_pos z]
        · have z : ¬ j < gs.length := by have := of_decide_eq_false z; omega
          refine ⟨_, rfl, ky2 _ _ (same_new nT) ?_⟩
          rw [arr_succ, List.map_append]
          show _ = _ ++ [V.int (if j < gs.length then _ else _)]
          rw [if_neg z]
      · intro H3 acc2 s3 d2 _ v2
        rw [List.length_map, arr_length] at v2
        refine ky _ _ s3 ?_
        rw [arr_succ]
        exact (v.mono fun _ _ r => r.mono (del_same s3)).snoc ⟨D2, rfl, by rw [del_ne (ne_new dD nD2).symm, d2, v2]⟩
    · intro H2 acc s2 dD _ v
      rw [hrl] at v
      have s3 := s1.trans s2
      refine ⟨_, rfl, _, rfl, yp, yv, rfl, .inr (SqT.at_ (s3 _ _ hyp)), _, rfl, zp, zv, rfl, .inr (SqT.at_ (s3 _ _ hzp)), _, _, rfl, rfl, ?_⟩
      refine ⟨.ref D, wan fs gs ss, fs.length, (gs ++ ss).length, ?_, ⟨D, acc, rfl, dD, v.mono fun _ _ r => r.mono del_to⟩, by have := J.N; omega, by omega, fun H3 p a b c f u v s4 e0 e1 e2 e3 e4 => k _ p a b c f u v (s3.trans s4) e0 e1 e2 e3 e4⟩
      rw [hN, hys.1, hzs.1, Int.natCast_add]; rfl
theorem sqf_bd {fs gs ss : List Col} (J : Job fs gs ss) {i c : Nat} (hi : i < fs.length) (hc : c < (gs ++ ss).length) : 0 ≤ sqf fs (gs ++ ss) i c ∧ sqf fs (gs ++ ss) i c ≤ grt fs (gs ++ ss) := by
  have a : fs.getD i z2 ∈ fs := by rw [List.getD_eq_getElem?_getD, List.getElem?_eq_getElem hi]; exact List.getElem_mem hi
  have b : (gs ++ ss).getD c z2 ∈ gs ++ ss := by rw [List.getD_eq_getElem?_getD, List.getElem?_eq_getElem hc]; exact List.getElem_mem hc
  refine ⟨(sqd_bd (J.bf _ a) (J.bt _ b)).1, ?_⟩
  have m1 : sqf fs (gs ++ ss) i c ∈ rowOf (gs ++ ss) (fs.getD i z2) := List.mem_map.mpr ⟨_, b, rfl⟩
  have m2 : mx (rowOf (gs ++ ss) (fs.getD i z2)) ∈ (rowsOf fs (gs ++ ss)).map mx := List.mem_map.mpr ⟨_, List.mem_map.mpr ⟨_, a, rfl⟩, rfl⟩
  have q1 := mx_le (List.mem_cons_of_mem 0 m1)
  have q2 := mx_le (List.mem_cons_of_mem 0 m2)
  unfold grt
  omega
theorem mor_gt {fs ts : List Col} : grt fs ts < mor fs ts := by
  unfold mor
  have a := mx_nn ((rowsOf fs ts).map mx)
  have b : grt fs ts * 1 ≤ grt fs ts * (1 + 2 * (fs.length : Int)) := Int.mul_le_mul_of_nonneg_left (by omega) a
  omega
abbrev papV (fs gs ss : List Col) (v : Nat → Int) (c : Nat) : Int := if c < gs.length then v c + mor fs (gs ++ ss) else v c
theorem found_fits {fs gs ss : List Col} (J : Job fs gs ss) {f : Nat → Nat} {u v : Nat → Int} (F : Found fs.length (gs ++ ss).length (wan fs gs ss) u v f) :
    Choice fs.length (gs ++ ss).length gs.length f ∧ Fits fs.length (gs ++ ss).length gs.length (sqf fs (gs ++ ss)) u (papV fs gs ss v) f :=
  F.fits J.g (by rw [List.length_append]; omega) (fun i c hi hc => (sqf_bd J hi hc).1) (fun i c hi hc => (sqf_bd J hi hc).2) mor_gt
theorem pri_legs (fs ts : List Col) (f : Nat → Nat) : pri (legsOf fs ts f) = price fs.length (sqf fs ts) f := by
  unfold pri legsOf price
  rw [arr_map, sum_arr]
  rfl
end
end Lo

namespace Lo
open PySem PySem.Spec PyProof.Rows L2
section
variable {P : Program} {w : World} {K : PySem.W.Frag} {mg : Str → Option Value} {base : Heap}
/-! ### least_legs, least_price -/
theorem getD_of {α : Type} {xs : List α} {i : Nat} {x d : α} (h : xs[i]? = some x) : xs.getD i d = x := by rw [List.getD_eq_getElem?_getD, h]; rfl
abbrev sLl : Stmt := topS 9
abbrev nLl : List Str := ["froms", "goals", "spare", "found", "one", "column"]
theorem scLl : FnScope nLl aT (defScope sLl) := ⟨rfl, rfl, rfl, by decide +kernel, rfl, by decide +kernel, by decide +kernel⟩
def spLl : Sp := fun vs H Q _ => ∃ (x y z : V) (fs gs ss : List Col), vs = [x, y, z] ∧ Cols H x fs ∧ Cols H y gs ∧ Cols H z ss ∧ Job fs gs ss ∧
  ∀ H' v f u q, Same H H' → Legs H' v (legsOf fs (gs ++ ss) f) → Choice fs.length (gs ++ ss).length gs.length f → Fits fs.length (gs ++ ss).length gs.length (sqf fs (gs ++ ss)) u q f → Q v H'
theorem ok_ll (h : Has K mg "least_legs" sLl aT) (B : Bl mg) (G : Kept P w K mg base 3 "least_found" aT spLf) : Kept P w K mg base 4 "least_legs" aT spLl := by
  refine h.kept fun f fd F => F.ok scLl (fun vs H Q E h => ?_) (fun cdv A outer s H vs Q E hr h => ?_)
  · obtain ⟨x, y, z, fs, gs, ss, rfl, _⟩ := h
    rfl
  · obtain ⟨x, y, z, fs, gs, ss, rfl, hx, hy, hz, J, k⟩ := h
    refine ⟨_, pss_cons (ps_set (i := 3) scLl.nd rfl (.inl rfl) (pe_ix (ixT K rfl) (pcall G hr (by rfl) (pa_cons (pv 0) (pa_cons (pv 1) (pa_cons (pv 2) pa_nil)))) pe_int (fun _ _ => rfl)))
      (pss_one (ps_ret (pe_callTy call_tuple_of (by rfl) B.tuple (by decide +kernel) (pa_cons
        (pe_lc (own := [("one", 4), ("column", 5)]) (g := gTup K 2 (gCons (gName 4) (gCons (gName 5) gNil))) (tt := tYes) rfl scLl.nd (pi_zpB true false (by rfl) B.zip (pa_cons (pv 0) (pa_cons (pv 3) pa_nil))) (blkOk_by (N := nLl) (sc := defScope sLl) (by decide +kernel))
          (fun _ _ _ _ _ => pg_tup rfl (pgs_cons (pg_name (i := 4) scLl.nd rfl (Or.inl rfl)) (pgs_cons (pg_name (i := 5) scLl.nd rfl (Or.inl rfl)) pgs_nil))) (fun _ _ _ _ _ => pts_nil)
          (fun _ _ _ _ _ => pe_tup (pa_cons (pv 4) (pa_cons (pe_ix (ixT K rfl) (pe_op (catA K rfl) (pv 1) (pv 2)) (pv 5) (fun _ _ => rfl)) pa_nil)))) pa_nil)))), ?_⟩
    have hgl := J.g
    have hnl := J.n
    have hsl := J.s
    have hN : (gs ++ ss).length = gs.length + ss.length := List.length_append
    refine ⟨_, rfl, _, rfl, _, rfl, x, y, z, fs, gs, ss, rfl, hx, hy, hz, J, fun H1 p a b c f u v s1 e0 e1 e2 e3 Fd => ?_⟩
    obtain ⟨Ch, Fi⟩ := found_fits J Fd
    refine ⟨p, _, 0, _, rfl, rfl, SqT.at_ e0, at0 _ _, ?_⟩
    obtain ⟨xp, xv, rfl, hxp, hxs⟩ := hx
    refine ⟨_, rfl, _, rfl, xp, a, _, _, rfl, SqT.at_ (s1 _ _ hxp), SqL.at_ e1, fun D nD => ?_⟩
    refine lcT (walk_zpB (K := K) (b := true) (c := false) (a := xp) (d := a)) (fun i acc H' => Seq (LV H') acc (arr i fun i => (fs.getD i z2, (gs ++ ss).getD (f i) z2))) (by rw [arr_length]; omega) nD (fun _ _ _ _ t v => v.mono fun _ _ r => r.mono t) Seq.nil (fun H' s => ⟨SqT.at_ (s _ _ (s1 _ _ hxp)), SqL.at_ (s _ _ e1)⟩) ?_ ?_
    · rintro i _ H2 _ acc hi s2 v ⟨T, x1, y1, rfl, nT, rfl, q1, q2⟩ Ky Kn ky kn
      rw [arr_length, hxs.1, Nat.min_self] at hi
      have q2 : (arr fs.length fun i => V.int (f i : Nat))[i]? = some y1 := q2
      rw [arr_get hi] at q2
      cases q2
      obtain ⟨cx, q3, q4⟩ := hxs.get' q1
      have sT : Same H2 (upd H2 T (.tup [x1, V.int (f i : Nat)])) := same_new nT
      have s3 := (s1.trans s2).trans sT
      refine ⟨T, _, rfl, SqT.at_ upd_same, rfl, _, _, rfl, _, _, rfl, rfl, rfl, ?_⟩
      refine ⟨_, rfl, _, rfl, _, rfl, cat_of (hy.mono (stk s3)) (hz.mono (stk s3)) (by omega) fun t H3 s4 ht => ?_⟩
      obtain ⟨tp, tv, rfl, htp, hts⟩ := ht
      have hfi := Ch.lt i hi
      obtain ⟨tx, q5, q6⟩ := hts.get (List.getElem?_eq_getElem hfi)
      refine ⟨_, rfl, tp, tv, _, tx, rfl, rfl, SqT.at_ htp, atI_nat q5, lineN (by simp), fun U nU => ky _ _ ((sT.trans s4).trans (same_new nU)) ?_⟩
      rw [arr_succ]
      have s5 : Same H3 (upd H3 U (.tup [x1, tx])) := same_new nU
      refine (v.mono fun _ _ r => r.mono (stk ((sT.trans s4).trans s5))).snoc ⟨U, x1, tx, rfl, upd_same, ?_, ?_⟩
      · rw [show (fs.getD i z2, (gs ++ ss).getD (f i) z2).1 = cx from getD_of q3]
        exact q4.mono (stk ((s3.trans s4).trans s5))
      · rw [show (fs.getD i z2, (gs ++ ss).getD (f i) z2).2 = (gs ++ ss)[f i] from getD_of (List.getElem?_eq_getElem hfi)]
        exact q6.mono (stk s5)
    · intro H2 acc s2 dD _ v
      rw [arr_length, hxs.1, Nat.min_self] at v
      refine ⟨D, acc, rfl, .inl ⟨SqL.at_ dD, fun l nl => ?_⟩⟩
      exact k _ _ f u _ ((s1.trans s2).trans (same_new nl)) ⟨l, acc, rfl, upd_same, v.mono fun _ _ r => r.mono (tk_new nl)⟩ Ch Fi
abbrev sLp : Stmt := topS 10
theorem scLp : FnScope aT aT (defScope sLp) := ⟨rfl, rfl, rfl, by decide +kernel, rfl, by decide +kernel, by decide +kernel⟩
def spLp : Sp := fun vs H Q _ => ∃ (x y z : V) (fs gs ss : List Col), vs = [x, y, z] ∧ Cols H x fs ∧ Cols H y gs ∧ Cols H z ss ∧ Job fs gs ss ∧
  ∀ H' f u q, Same H H' → Choice fs.length (gs ++ ss).length gs.length f → Fits fs.length (gs ++ ss).length gs.length (sqf fs (gs ++ ss)) u q f → Q (.int (price fs.length (sqf fs (gs ++ ss)) f)) H'
theorem getD_mem {α : Type} {xs : List α} {i : Nat} {d : α} (h : i < xs.length) : xs.getD i d ∈ xs := by rw [List.getD_eq_getElem?_getD, List.getElem?_eq_getElem h]; exact List.getElem_mem h
/-- the legs of a choice stand within the bounds -/
theorem legs_bd {fs gs ss : List Col} (J : Job fs gs ss) {f : Nat → Nat} (C : Choice fs.length (gs ++ ss).length gs.length f) : ∀ l ∈ legsOf fs (gs ++ ss) f, Bc l.1 ∧ Bc l.2 := by
  intro l hl
  obtain ⟨i, hi, rfl⟩ := List.mem_map.mp hl
  have hi := List.mem_range.mp hi
  exact ⟨J.bf _ (getD_mem hi), J.bt _ (getD_mem (C.lt i hi))⟩
theorem legsOf_len (fs ts : List Col) (f : Nat → Nat) : (legsOf fs ts f).length = fs.length := arr_length _ _
theorem ok_lp (h : Has K mg "least_price" sLp aT) (G1 : Kept P w K mg base 4 "least_legs" aT spLl) (G2 : Kept P w K mg base 3 "price_of" ["legs"] spPr) : Kept P w K mg base 5 "least_price" aT spLp := by
  refine h.kept fun f fd F => F.ok scLp (fun vs H Q E h => ?_) (fun cdv A outer s H vs Q E hr h => ?_)
  · obtain ⟨x, y, z, fs, gs, ss, rfl, _⟩ := h
    rfl
  · obtain ⟨x, y, z, fs, gs, ss, rfl, hx, hy, hz, J, k⟩ := h
    refine ⟨_, pss_one (ps_ret (pcall G2 (hr.mono (by decide)) (by rfl) (pa_cons (pcall G1 hr (by rfl) (pa_cons (pv 0) (pa_cons (pv 1) (pa_cons (pv 2) pa_nil)))) pa_nil))), ?_⟩
    refine ⟨_, rfl, _, rfl, _, rfl, x, y, z, fs, gs, ss, rfl, hx, hy, hz, J, fun H1 v f u q s1 hl Ch Fi => ?_⟩
    have := J.n
    refine ⟨v, _, rfl, hl, by rw [legsOf_len]; omega, legs_bd J Ch, fun H2 s2 => ?_⟩
    rw [pri_legs]
    exact k _ f u q (s1.trans s2) Ch Fi
end
end Lo

namespace Lo
open PySem PySem.Spec PyProof.Rows L2
section
variable {P : Program} {w : World} {K : PySem.W.Frag} {mg : Str → Option Value} {base : Heap}
/-! ### edges_of -/
abbrev sEd : Stmt := topS 13
abbrev nEd : List Str := ["spare", "legs", "many", "found", "index", "one", "to", "own", "other", "begin", "its", "end"]
theorem scEd : FnScope nEd ["spare", "legs"] (defScope sEd) := ⟨rfl, rfl, rfl, by decide +kernel, rfl, by decide +kernel, by decide +kernel⟩
def eo : Option Nat → V
  | none => .non
  | some k => .int (k : Nat)
def EV (H : Hp) (v : V) (e : Edge) : Prop := ∃ a, v = .ref a ∧ H a = some (.tup [.int (e.a : Nat), .int (e.b : Nat), .int e.w, eo e.e])
theorem EV.mono : Mo EV := fun k _ _ ⟨a, e, h⟩ => ⟨a, e, k _ _ h⟩
abbrev jC (fs gs ss : List Col) (t : Nat → Nat) : Prop := Choice fs.length (gs ++ ss).length gs.length t
def frs (fs gs ss : List Col) (t : Nat → Nat) : List Nat := frees ss (legsOf fs (gs ++ ss) t)
abbrev edsOf (fs gs ss : List Col) (t : Nat → Nat) (i : Nat) : List Edge := eds fs.length gs.length (sqf fs (gs ++ ss)) t (frs fs gs ss t) i
theorem frs_mem {fs gs ss : List Col} (J : Job fs gs ss) {t : Nat → Nat} (C : jC fs gs ss t) (k : Nat) : k ∈ frs fs gs ss t ↔ gs.length + k < (gs ++ ss).length ∧ ∀ i, i < fs.length → t i ≠ gs.length + k := by
  unfold frs frees
  simp only [List.mem_filter, List.mem_range, decide_eq_true_eq]
  have e : ∀ k, k < ss.length → ss.getD k (0, 0) = (gs ++ ss).getD (gs.length + k) z2 := fun k hk => by
    rw [List.getD_eq_getElem?_getD, List.getD_eq_getElem?_getD, List.getElem?_append_right (by omega), Nat.add_sub_cancel_left]
  have hN : (gs ++ ss).length = gs.length + ss.length := List.length_append
  constructor
  · rintro ⟨hk, h⟩
    refine ⟨by omega, fun i hi z => h ?_⟩
    rw [e k hk, ← z]
    exact List.mem_map.mpr ⟨_, List.mem_map.mpr ⟨i, List.mem_range.mpr hi, rfl⟩, rfl⟩
  · rintro ⟨hk, h⟩
    have hk' : k < ss.length := by omega
    refine ⟨hk', fun z => ?_⟩
    rw [e k hk'] at z
    obtain ⟨l, hl, q⟩ := List.mem_map.mp z
    obtain ⟨i, hi, rfl⟩ := List.mem_map.mp hl
    have hi := List.mem_range.mp hi
    exact h i hi (nd_inj J.nd (C.lt i hi) hk q)
theorem frs_len (fs gs ss : List Col) (t : Nat → Nat) : (frs fs gs ss t).length ≤ ss.length := by
  unfold frs frees
  have := List.length_filter_le (fun j => decide (ss.getD j (0, 0) ∉ (legsOf fs (gs ++ ss) t).map (·.2))) (List.range ss.length)
  rw [List.length_range] at this
  exact this
/-- a column is spare where it stands behind the goals -/
theorem in_spare {fs gs ss : List Col} (J : Job fs gs ss) {c : Nat} (hc : c < (gs ++ ss).length) : (gs ++ ss).getD c z2 ∈ ss ↔ gs.length ≤ c := by
  have hN : (gs ++ ss).length = gs.length + ss.length := List.length_append
  constructor
  · intro h
    obtain ⟨k, hk, e⟩ := List.getElem_of_mem h
    have : c = gs.length + k := nd_inj (d := z2) J.nd hc (by omega) (by
      rw [← e]
      conv => rhs; rw [List.getD_eq_getElem?_getD, List.getElem?_append_right (by omega), Nat.add_sub_cancel_left, List.getElem?_eq_getElem hk]
      rfl)
    omega
  · intro h
    rw [List.getD_eq_getElem?_getD, List.getElem?_append_right h, List.getElem?_eq_getElem (by omega)]
    exact List.getElem_mem _
theorem spare_at {gs ss : List Col} {k : Nat} (hk : k < ss.length) : ss[k]? = some ((gs ++ ss).getD (gs.length + k) z2) := by
  rw [List.getD_eq_getElem?_getD, List.getElem?_append_right (by omega), Nat.add_sub_cancel_left, List.getElem?_eq_getElem hk]; rfl
/-- one leg -/
theorem leg_at {fs gs ss : List Col} {t : Nat → Nat} {H : Hp} {us : List V} (h : Seq (LV H) us (legsOf fs (gs ++ ss) t)) {i : Nat} {u : V} (e : us[i]? = some u) :
    i < fs.length ∧ ∃ a x y, u = .ref a ∧ H a = some (.tup [x, y]) ∧ CV H x (fs.getD i z2) ∧ CV H y ((gs ++ ss).getD (t i) z2) := by
  obtain ⟨l, hl, a, x, y, h1, h2, h3, h4⟩ := h.get' e
  have hi : i < fs.length := by
    by_cases q : i < fs.length
    · exact q
    · unfold legsOf at hl; rw [arr_get_none (by omega)] at hl; cases hl
  unfold legsOf at hl
  rw [arr_get hi] at hl
  cases hl
  exact ⟨hi, a, x, y, h1, h2, h3, h4⟩
def spEd : Sp := fun vs H Q _ => ∃ (x y : V) (fs gs ss : List Col) (t : Nat → Nat), vs = [x, y] ∧ Cols H x ss ∧ Legs H y (legsOf fs (gs ++ ss) t) ∧ Job fs gs ss ∧ jC fs gs ss t ∧
  ∀ H' p vs, Same H H' → H' p = some (.lst vs) → Seq (EV H') vs (edsOf fs gs ss t fs.length) → Q (.ref p) H'
theorem ok_ed (h : Has K mg "edges_of" sEd ["spare", "legs"]) (B : Bl mg) (G1 : Kept P w K mg base 1 "square_between" ["one", "other"] spSq) (G2 : Kept P w K mg base 1 "free_spares" ["spare", "legs"] spFs) : Kept P w K mg base 2 "edges_of" ["spare", "legs"] spEd := by
  refine h.kept fun f fd F => F.ok scEd (fun vs H Q E h => ?_) (fun cdv A outer s H vs Q E hr h => ?_)
  · obtain ⟨x, y, fs, gs, ss, t, rfl, _⟩ := h
    rfl
  · obtain ⟨x, y, fs, gs, ss, t, rfl, hx, hy, J, C, k⟩ := h
    refine ⟨_, pss_cons (ps_par (i := 2) (j := 3) rfl scEd.nd rfl rfl (by decide) rfl rfl (pa_cons (pe_callB (lenQ K rfl) (by rfl) B.len (by decide +kernel) (pa_cons (pv 1) pa_nil)) (pa_cons (pe_lst pa_nil) pa_nil)) rfl)
      (pss_cons (ps_for PassesOwn.never rfl (pi_enB true (by rfl) B.enumerate (pa_cons (pv 1) pa_nil)) (pg_tup rfl (pgs_cons (pg_name (i := 4) scEd.nd rfl (.inl rfl)) (pgs_cons (pg_tup rfl (pgs_cons (pg_name (i := 5) scEd.nd rfl (.inl rfl)) (pgs_cons (pg_name (i := 6) scEd.nd rfl (.inl rfl)) pgs_nil))) pgs_nil)))
        (pss_cons (ps_set (i := 7) scEd.nd rfl (.inl rfl) (pcall G1 hr (by rfl) (pa_cons (pv 5) (pa_cons (pv 6) pa_nil))))
        (pss_cons (ps_for PassesOwn.never rfl (pi_enB true (by rfl) B.enumerate (pa_cons (pv 1) pa_nil)) (pg_tup rfl (pgs_cons (pg_name (i := 8) scEd.nd rfl (.inl rfl)) (pgs_cons (pg_tup rfl (pgs_cons (pg_name (i := 9) scEd.nd rfl (.inl rfl)) (pgs_cons (pg_name (i := 10) scEd.nd rfl (.inl rfl)) pgs_nil))) pgs_nil)))
          (pss_one (ps_if (pt_cmpR op_ne (pv 8) (pv 4) (nomark _))
            (pss_one (ps_expr (pe_bm PySem.F.plainAttrs_list PySem.F.slot_list_append PySem.F.type_list_append mt_append (pv 3) (pa_cons (pe_tup (pa_cons (pv 4) (pa_cons (pv 8) (pa_cons (pe_op op_sub (pcall G1 hr (by rfl) (pa_cons (pv 5) (pa_cons (pv 10) pa_nil))) (pv 7)) (pa_cons pe_non pa_nil))))) pa_nil)))) pss_nil)))
        (pss_cons (ps_for PassesOwn.never rfl (pi_tup (pcall G2 hr (by rfl) (pa_cons (pv 0) (pa_cons (pv 1) pa_nil)))) (pg_name (i := 11) scEd.nd rfl (.inl rfl))
          (pss_one (ps_expr (pe_bm PySem.F.plainAttrs_list PySem.F.slot_list_append PySem.F.type_list_append mt_append (pv 3) (pa_cons (pe_tup (pa_cons (pv 4) (pa_cons (pv 2) (pa_cons (pe_op op_sub (pcall G1 hr (by rfl) (pa_cons (pv 5) (pa_cons (pe_ix (ixT K rfl) (pv 0) (pv 11) (fun _ _ => rfl)) pa_nil))) (pv 7)) (pa_cons (pv 11) pa_nil))))) pa_nil)))))
        (pss_one (ps_if (pt_cmpR (inC true K rfl (hu65 hr)) (pv 6) (pv 0) rfl)
            (pss_one (ps_expr (pe_bm PySem.F.plainAttrs_list PySem.F.slot_list_append PySem.F.type_list_append mt_append (pv 3) (pa_cons (pe_tup (pa_cons (pv 2) (pa_cons (pv 4) (pa_cons pe_int (pa_cons pe_non pa_nil))))) pa_nil)))) pss_nil))))))
      (pss_one (ps_ret (pv 3)))), ?_⟩
    have hN : (gs ++ ss).length = gs.length + ss.length := List.length_append
    have hnl := J.n
    have hsl := J.s
    have hfl : (frs fs gs ss t).length ≤ 50 := Nat.le_trans (frs_len fs gs ss t) hsl
    have elen : ∀ i, (edsOf fs gs ss t i).length ≤ i * 101 := eds_len hnl hfl
    have hx0 := hx
    have hy0 := hy
    obtain ⟨xp, xv, rfl, hxp, hxs⟩ := hx
    obtain ⟨yp, yv, rfl, hyp, hys⟩ := hy
    have hyl : yv.length = fs.length := by rw [hys.1, legsOf_len]
    have bF : ∀ i, i < fs.length → Bc (fs.getD i z2) := fun i hi => J.bf _ (getD_mem hi)
    have bT : ∀ c, c < (gs ++ ss).length → Bc ((gs ++ ss).getD c z2) := fun c hc => J.bt _ (getD_mem hc)
    refine ⟨_, rfl, yp, yv, rfl, .inr (SqT.at_ hyp), lineN (by simp), fun fa nfa => ⟨_, _, rfl, ?_⟩⟩
    rw [hyl]
    have L0 : Lx EV H fa [] _ := Lx.new (.refl _) nfa
    refine ⟨_, rfl, yp, yv, rfl, SqT.at_ (L0.sm _ _ hyp), ?_⟩
    refine for_it (walk_enB (K := K) (b := true) (a := yp) (xs := yv)) (fun i σ H' => ∃ v4 v5 v6 v7 v8 v9 v10 v11, σ = [some (.ref xp), some (.ref yp), some (.int (fs.length : Nat)), some (.ref fa), v4, v5, v6, v7, v8, v9, v10, v11] ∧ Lx EV H fa (edsOf fs gs ss t i) H')
      ⟨none, none, none, none, none, none, none, none, rfl, L0⟩ (fun i σ H' _ ⟨_, _, _, _, _, _, _, _, _, L⟩ => SqT.at_ (L.sm _ _ hyp)) ?_ ?_
    · rintro i _ _ H1 _ hi ⟨v4, v5, v6, v7, v8, v9, v10, v11, rfl, L⟩ ⟨T, x1, y1, rfl, nT, rfl, e1', e2'⟩
      cases e1'
      obtain ⟨hi', a, ox, tx, rfl, ha, c1, c2⟩ := leg_at hys e2'
      have hti := C.lt i hi'
      have L1 := L.to EV.mono (same_new (o := .tup [V.int (i : Nat), V.ref a]) nT)
      refine ⟨T, _, rfl, SqT.at_ upd_same, rfl, _, _, rfl, _, _, rfl, a, _, rfl, SqT.at_ (L1.sm _ _ ha), rfl, _, _, rfl, _, _, rfl, rfl, rfl, ?_⟩
      refine ⟨_, rfl, _, rfl, ox, tx, _, _, rfl, c1.mono (stk L1.sm), c2.mono (stk L1.sm), bF i hi', bT _ hti, ?_⟩
      refine ⟨_, rfl, yp, yv, rfl, SqT.at_ (L1.sm _ _ hyp), ?_⟩
      have hel := elen i
      refine for_it (walk_enB (K := K) (b := true) (a := yp) (xs := yv)) (fun j σ H' => ∃ v8 v9 v10 v11, σ = [some (.ref xp), some (.ref yp), some (.int (fs.length : Nat)), some (.ref fa), some (.int (i : Nat)), some ox, some tx, some (.int (sqf fs (gs ++ ss) i (t i))), v8, v9, v10, v11] ∧ Lx EV H fa (edsOf fs gs ss t i ++ e1 (sqf fs (gs ++ ss)) t i j) H')
        ⟨v8, v9, v10, v11, rfl, by rw [e1_zero, List.append_nil]; exact L1⟩ (fun i σ H' _ ⟨_, _, _, _, _, L⟩ => SqT.at_ (L.sm _ _ hyp)) ?_ ?_
      · rintro j _ _ H2 _ hj ⟨v8, v9, v10, v11, rfl, L2⟩ ⟨U, x2, y2, rfl, nU, rfl, q1, q2⟩
        cases q1
        obtain ⟨hj', b, bx, ix, rfl, hb, d1, d2⟩ := leg_at hys q2
        have L3 := L2.to EV.mono (same_new (o := .tup [V.int (j : Nat), V.ref b]) nU)
        refine ⟨U, _, rfl, SqT.at_ upd_same, rfl, _, _, rfl, _, _, rfl, b, _, rfl, SqT.at_ (L3.sm _ _ hb), rfl, _, _, rfl, _, _, rfl, rfl, rfl, ?_⟩
        refine ⟨_, rfl, _, rfl, rfl, _, rfl, ?_⟩
        have h1l := e1_len (sq := sqf fs (gs ++ ss)) (t := t) i j
        refine ifB (fun z => ?_) (fun z => ?_)
        · have hne : j ≠ i := fun e => by rw [e] at z; simp at z
          refine ⟨_, rfl, L3.ty, _, rfl, _, rfl, _, rfl, _, rfl, ox, ix, _, _, rfl, c1.mono (stk L3.sm), d2.mono (stk L3.sm), bF i hi', bT _ (C.lt j hj'), _, rfl, _, _, rfl, rfl, lineN (by simp), fun W nW => ?_⟩
          have LW := L3.to EV.mono (same_new (o := .tup [V.int (i : Nat), V.int (j : Nat), V.int (sqf fs (gs ++ ss) i (t j) - sqf fs (gs ++ ss) i (t i)), V.non]) nW)
          refine app_at EV.mono LW nfa (by rw [List.length_append]; omega) (x := eP (sqf fs (gs ++ ss)) t i j) ⟨W, rfl, upd_same⟩ fun H4 L4 _ => ?_
          refine ⟨_, _, _, _, rfl, ?_⟩
          rw [e1_succ hne, ← List.append_assoc]
          exact L4
        · have hie : j = i := by
            have y : ((j : Nat) : Int) = (i : Int) := by simpa using z
            omega
          subst hie
          refine ⟨_, _, _, _, rfl, ?_⟩
          rw [e1_same]
          exact L3
      · rintro _ H2 ⟨v8, v9, v10, v11, rfl, L2⟩
        rw [hyl] at L2
        refine ⟨_, rfl, _, rfl, .ref xp, .ref yp, ss, legsOf fs (gs ++ ss) t, rfl, hx0.mono (stk L2.sm), hy0.mono (stk L2.sm), by omega, by rw [legsOf_len]; omega, fun H3 fp s3 hfp => ⟨fp, rfl, ⟨_, SqT.at_ hfp⟩, ?_⟩⟩
        have hfp : H3 fp = some (.tup ((frs fs gs ss t).map fun j => V.int (j : Nat))) := hfp
        have L3 := L2.to EV.mono s3
        have h1l := e1_len (sq := sqf fs (gs ++ ss)) (t := t) i fs.length
        refine for_it (walk_tup (K := K) (a := fp) (xs := (frs fs gs ss t).map fun j => V.int (j : Nat))) (fun m σ H' => ∃ v8 v9 v10 v11, σ = [some (.ref xp), some (.ref yp), some (.int (fs.length : Nat)), some (.ref fa), some (.int (i : Nat)), some ox, some tx, some (.int (sqf fs (gs ++ ss) i (t i))), v8, v9, v10, v11] ∧ Tk H3 H' ∧
            Lx EV H fa (edsOf fs gs ss t i ++ e1 (sqf fs (gs ++ ss)) t i fs.length ++ e2 fs.length gs.length (sqf fs (gs ++ ss)) t (frs fs gs ss t) i m) H')
          ⟨v8, v9, v10, v11, rfl, .refl _, by rw [e2_zero, List.append_nil]; exact L3⟩ (fun i σ H' _ ⟨_, _, _, _, _, tk, _⟩ => SqT.at_ (tk _ _ hfp)) ?_ ?_
        · rintro m _ _ H4 _ hm ⟨v8, v9, v10, v11, rfl, tk, L4⟩ ⟨rfl, he⟩
          rw [List.length_map] at hm
          rw [List.getElem?_map, List.getElem?_eq_getElem hm] at he
          have hk : (frs fs gs ss t)[m]? = some (frs fs gs ss t)[m] := List.getElem?_eq_getElem hm
          have hkm := (frs_mem J C _).mp (List.getElem_mem hm)
          generalize (frs fs gs ss t)[m] = kk at he hk hkm
          cases he
          obtain ⟨cv, hcv, hcc⟩ := hxs.get (spare_at (gs := gs) (k := kk) (by omega))
          have h2l := e2_len (n := fs.length) (g := gs.length) (sq := sqf fs (gs ++ ss)) (t := t) (fr := frs fs gs ss t) i m
          refine ⟨_, rfl, L4.ty, _, rfl, _, rfl, _, rfl, _, rfl, _, rfl, xp, xv, _, cv, rfl, rfl, SqT.at_ (L4.sm _ _ hxp), atI_nat hcv, ox, cv, _, _, rfl, c1.mono (stk L4.sm), hcc.mono (stk L4.sm), bF i hi', bT _ hkm.1, _, rfl, _, _, rfl, rfl, _, rfl, lineN (by simp), fun W nW => ?_⟩
          have LW := L4.to EV.mono (same_new (o := .tup [V.int (i : Nat), V.int (fs.length : Nat), V.int (sqf fs (gs ++ ss) i (gs.length + kk) - sqf fs (gs ++ ss) i (t i)), V.int (kk : Nat)]) nW)
          refine app_at EV.mono LW nfa (by rw [List.length_append, List.length_append]; omega) (x := eF fs.length gs.length (sqf fs (gs ++ ss)) t i kk) ⟨W, rfl, upd_same⟩ fun H5 L5 tk5 => ?_
          refine ⟨_, _, _, _, rfl, tk.trans ((tk_new nW).trans tk5), ?_⟩
          rw [e2_succ hk, ← List.append_assoc]
          exact L5
        · rintro _ H4 ⟨v8, v9, v10, v11, rfl, tk, L4⟩
          rw [List.length_map] at L4
          have h2l := e2_len (n := fs.length) (g := gs.length) (sq := sqf fs (gs ++ ss)) (t := t) (fr := frs fs gs ss t) i (frs fs gs ss t).length
          refine ⟨_, rfl, _, rfl, _, ss, xp, xv, c2.mono (stk L4.sm), rfl, SqT.at_ (L4.sm _ _ hxp), hxs.mono fun _ _ r => r.mono (stk L4.sm), fun r hr => ⟨r, rfl, ?_⟩⟩
          rw [in_spare J hti] at hr
          refine ifB (fun z => ?_) (fun z => ?_)
          · refine ⟨_, rfl, L4.ty, _, rfl, _, rfl, lineN (by simp), fun W nW => ?_⟩
            have hi50 : i + 1 ≤ 50 := by omega
            refine app_at EV.mono (L4.to EV.mono (same_new nW)) nfa (by rw [List.length_append, List.length_append]; omega) (x := eB fs.length i) ⟨W, rfl, upd_same⟩ fun H5 L5 _ => ?_
            refine ⟨_, _, _, _, _, _, _, _, rfl, ?_⟩
            unfold edsOf
            rw [eds_succ]
            unfold eI e3
            rw [if_pos (hr.mp z), ← List.append_assoc, ← List.append_assoc]
            exact L5
          · refine ⟨_, _, _, _, _, _, _, _, rfl, ?_⟩
            unfold edsOf
            rw [eds_succ]
            unfold eI e3
            rw [if_neg (fun y => by rw [hr.mpr y] at z; cases z), List.append_nil, ← List.append_assoc]
            exact L4
    · rintro _ H1 ⟨v4, v5, v6, v7, v8, v9, v10, v11, rfl, L⟩
      rw [hyl] at L
      obtain ⟨s1, vs, e, q⟩ := L
      exact ⟨_, rfl, k _ _ vs s1 e q⟩
end
end Lo

namespace Lo
open PySem PySem.Spec PyProof.Rows L2
section
variable {P : Program} {w : World} {K : PySem.W.Frag} {mg : Str → Option Value} {base : Heap}
/-! ### led_on -/
abbrev sLe : Stmt := topS 14
abbrev nLe : List Str := ["edges", "many", "costs", "by", "last", "turn", "edge"]
theorem scLe : FnScope nLe ["edges", "many"] (defScope sLe) := ⟨rfl, rfl, rfl, by decide +kernel, rfl, by decide +kernel, by decide +kernel⟩
def BV (H : Hp) (v : V) : Option Edge → Prop
  | none => v = .non
  | some e => EV H v e
theorem BV.mono : Mo BV := fun k v x h => by
  cases x with
  | none => exact h
  | some e => exact EV.mono k h
structure Lt (n : Nat) (H0 : Hp) (ca ba : Addr) (cost : Nat → Int) (by_ : Nat → Option Edge) (H : Hp) : Prop where
  sm : Same H0 H
  hc : H ca = some (.lst (arr (n + 1) fun k => V.int (cost k)))
  hb : ∃ vs, H ba = some (.lst vs) ∧ Seq (BV H) vs (arr (n + 1) by_)
  nc : H0 ca = none
  nb : H0 ba = none
  ne : ca ≠ ba
section
variable {n : Nat} {H0 H : Hp} {ca ba : Addr} {cost : Nat → Int} {by_ : Nat → Option Edge}
theorem Lt.setC (h : Lt n H0 ca ba cost by_ H) (f : Nat → Int) : Lt n H0 ca ba f by_ (upd H ca (.lst (arr (n + 1) fun k => V.int (f k)))) :=
  { h with sm := same_at h.sm h.nc, hc := upd_same, hb := let ⟨vs, e, q⟩ := h.hb; ⟨vs, (upd_ne (Ne.symm h.ne)).trans e, q.mono fun _ _ r => BV.mono (tk_lst h.hc) r⟩ }
theorem Lt.setB (h : Lt n H0 ca ba cost by_ H) {vs : List V} (e : H ba = some (.lst vs)) (q : Seq (BV H) vs (arr (n + 1) by_)) {j : Nat} {v : V} {x : Edge} (r : EV H v x) :
    Lt n H0 ca ba cost (fun k => if k = j then some x else by_ k) (upd H ba (.lst (vs.set j v))) :=
  { h with sm := same_at h.sm h.nb, hc := (upd_ne h.ne).trans h.hc, hb := ⟨_, upd_same, by
      rw [← arr_set]
      exact (q.set (x := some x) r j).mono fun _ _ r => BV.mono (tk_lst e) r⟩ }
end
def spLe : Sp := fun vs H Q _ => ∃ (ea : Addr) (us : List V) (E : List Edge) (n : Nat), vs = [.ref ea, .int (n : Nat)] ∧ H ea = some (.lst us) ∧ Seq (EV H) us E ∧ Ew (n + 1) E ∧ E.length ≤ 9999 ∧ n ≤ 100 ∧
  ∀ H' p b cost by_ last, Same H H' → H' p = some (.tup [.ref b, eo last]) → (∃ vs, H' b = some (.lst vs) ∧ Seq (BV H') vs (arr (n + 1) by_)) →
    ((last = none ∧ ∀ e, e ∈ E → cost e.b ≤ cost e.a + e.w) ∨ ∃ x, last = some x ∧ Ps (n + 1) E n E.length cost by_ (some x)) → Q (.ref p) H'
theorem eo_non {o : Option Nat} (h : eo o = .non) : o = none := by
  cases o with
  | none => rfl
  | some x => cases h
theorem eo_some {o : Option Nat} (h : ¬ eo o = .non) : ∃ x, o = some x := by
  cases o with
  | none => exact absurd rfl h
  | some x => exact ⟨x, rfl⟩
theorem ok_le (h : Has K mg "led_on" sLe ["edges", "many"]) (B : Bl mg) : Kept P w K mg base 1 "led_on" ["edges", "many"] spLe := by
  refine h.kept fun f fd F => F.ok scLe (fun vs H Q E h => ?_) (fun cdv A outer s H vs Q E hr h => ?_)
  · obtain ⟨ea, us, E, n, rfl, _⟩ := h
    rfl
  · obtain ⟨ea, us, E, n, rfl, hea, hus, hE, hel, hn, k⟩ := h
    refine ⟨_, pss_cons (ps_par (i := 2) (j := 3) rfl scLe.nd rfl rfl (by decide) rfl rfl (pa_cons (pe_op op_rep (pe_lst (pa_cons pe_int pa_nil)) (pe_op op_add (pv 1) pe_int)) (pa_cons (pe_op op_rep (pe_lst (pa_cons pe_non pa_nil)) (pe_op op_add (pv 1) pe_int)) pa_nil)) rfl)
      (pss_cons (ps_set (i := 4) scLe.nd rfl (.inl rfl) pe_non)
      (pss_cons (ps_for PassesOwn.never rfl (pi_range1 (by rfl) B.range (pa_cons (pe_op op_add (pv 1) pe_int) pa_nil)) (pg_name (i := 5) scLe.nd rfl (.inl rfl))
        (pss_cons (ps_set (i := 4) scLe.nd rfl (.inl rfl) pe_non)
        (pss_cons (ps_for PassesOwn.never rfl (pi_list (pv 0)) (pg_name (i := 6) scLe.nd rfl (.inl rfl))
          (pss_one (ps_if (pt_cmpR op_lt (pe_op op_add (pe_ix (ixL K rfl) (pv 2) (pe_ix (ixT K rfl) (pv 6) pe_int (fun _ _ => rfl)) (fun _ _ => rfl)) (pe_ix (ixT K rfl) (pv 6) pe_int (fun _ _ => rfl))) (pe_ix (ixL K rfl) (pv 2) (pe_ix (ixT K rfl) (pv 6) pe_int (fun _ _ => rfl)) (fun _ _ => rfl)) (nomark _))
            (pss_cons (ps_asg (pe_op op_add (pe_ix (ixL K rfl) (pv 2) (pe_ix (ixT K rfl) (pv 6) pe_int (fun _ _ => rfl)) (fun _ _ => rfl)) (pe_ix (ixT K rfl) (pv 6) pe_int (fun _ _ => rfl))) (pg_sub (pv 2) (pe_ix (ixT K rfl) (pv 6) pe_int (fun _ _ => rfl)) set_list))
            (pss_cons (ps_asg (pv 6) (pg_sub (pv 3) (pe_ix (ixT K rfl) (pv 6) pe_int (fun _ _ => rfl)) set_list))
            (pss_one (ps_set (i := 4) scLe.nd rfl (.inl rfl) (pe_ix (ixT K rfl) (pv 6) pe_int (fun _ _ => rfl)))))) pss_nil)))
        (pss_one (ps_if (pt_cmpR op_isN (pv 4) pe_non (nomark _)) (pss_one (ps_ret (pe_tup (pa_cons (pv 3) (pa_cons pe_non pa_nil))))) pss_nil)))))
      (pss_one (ps_ret (pe_tup (pa_cons (pv 3) (pa_cons (pv 4) pa_nil))))))), ?_⟩
    refine ⟨lineN (by simp), fun q1 n1 => ⟨_, rfl, _, _, rfl, rfl, repA (n := n + 1) upd_same (by omega) (by omega) fun ca nca => ?_⟩⟩
    refine ⟨lineN (by simp), fun q2 n2 => ⟨_, rfl, _, _, rfl, rfl, repA (n := n + 1) upd_same (by omega) (by omega) fun ba nba => ⟨_, _, rfl, ?_⟩⟩⟩
    have sA := (same_new (o := .lst [V.int 0]) n1).trans (same_new (o := .lst (arr (n + 1) fun _ => V.int 0)) nca)
    have sB := (same_new (o := .lst [V.non]) n2).trans (same_new (o := .lst (arr (n + 1) fun _ => V.non)) nba)
    have L0 : Lt n H ca ba (fun _ => 0) (fun _ => none) _ := {
      sm := sA.trans sB
      hc := sB _ _ upd_same
      hb := ⟨_, upd_same, by
        refine ⟨by rw [arr_length, arr_length], fun i v x e1 e2 => ?_⟩
        by_cases q : i < n + 1
        · rw [arr_get q] at e1 e2; cases e1; cases e2; rfl
        · rw [arr_get_none (by omega)] at e1; cases e1⟩
      nc := same_none (same_new n1) nca
      nb := same_none (sA.trans (same_new n2)) nba
      ne := ne_new (same_new n2 _ _ upd_same) nba }
    refine ⟨_, rfl, _, _, rfl, rfl, _, rfl, by omega, by omega, ?_⟩
    rw [show ((n : Int) + 1).toNat = n + 1 by omega]
    refine for_rg (fun t σ H' => ∃ v5 v6 last cost by_, σ = [some (.ref ea), some (.int (n : Nat)), some (.ref ca), some (.ref ba), some (eo last), v5, v6] ∧ Lt n H ca ba cost by_ H' ∧ Bf (n + 1) E cost by_ ∧ (∀ v D, v < n + 1 → Rc E t v D → cost v ≤ D) ∧
        ∀ t', t = t' + 1 → ∃ x, last = some x ∧ Ps (n + 1) E t' E.length cost by_ (some x))
      ⟨none, none, none, _, _, rfl, L0, Bf.start _ _, fun v D _ h => by cases h with | zero => exact Int.le_refl _, fun t' h => absurd h (by omega)⟩ ?_ ?_
    · rintro t _ H1 ht ⟨v5, v6, last, cost, by_, rfl, L, bf, up, _⟩
      refine ⟨_, rfl, ea, rfl, ⟨_, SqL.at_ (L.sm _ _ hea)⟩, ?_⟩
      refine for_it (walk_list (K := K) (a := ea) (xs := us)) (fun j σ H' => ∃ v6 last cost by_, σ = [some (.ref ea), some (.int (n : Nat)), some (.ref ca), some (.ref ba), some (eo last), some (.int (t : Nat)), v6] ∧ Lt n H ca ba cost by_ H' ∧ Ps (n + 1) E t j cost by_ last)
        ⟨v6, none, cost, by_, rfl, L, Ps.start bf up⟩ (fun j σ H' _ ⟨_, _, _, _, _, L, _⟩ => SqL.at_ (L.sm _ _ hea)) ?_ ?_
      · rintro j _ _ H2 _ hj ⟨v6, last, cost, by_, rfl, L, ps⟩ ⟨rfl, hu⟩
        obtain ⟨e, he, a, rfl, ha⟩ := hus.get' hu
        have hem := List.mem_of_getElem? he
        obtain ⟨w1, w2, w3⟩ := hE e hem
        have hT := SqT.at_ (K := K) (L.sm _ _ ha)
        refine ⟨_, rfl, _, rfl, a, _, 0, _, rfl, rfl, hT, at0 _ _, ixA L.hc w1 ⟨_, rfl, a, _, 2, _, rfl, rfl, hT, at2 _ _ _ _, _, _, rfl, rfl, _, rfl, _, rfl, a, _, 1, _, rfl, rfl, hT, at1 _ _ _, ixA L.hc w2 ⟨_, _, rfl, rfl, _, rfl, ?_⟩⟩⟩
        refine ifB (fun z => ?_) (fun z => ?_)
        · have hlt : cost e.a + e.w < cost e.b := of_decide_eq_true z
          refine ⟨_, rfl, _, rfl, a, _, 0, _, rfl, rfl, hT, at0 _ _, ixA L.hc w1 ⟨_, rfl, a, _, 2, _, rfl, rfl, hT, at2 _ _ _ _, _, _, rfl, rfl, _, rfl, _, rfl, a, _, 1, _, rfl, rfl, hT, at1 _ _ _, setA (g := fun k => V.int (if k = e.b then cost e.a + e.w else cost k)) L.hc w2 (fun k _ => by split <;> rfl) ?_⟩⟩
          have L1 := L.setC fun k => if k = e.b then cost e.a + e.w else cost k
          obtain ⟨vs, e1, q1⟩ := L1.hb
          have hT1 := SqT.at_ (K := K) (L1.sm _ _ ha)
          refine ⟨_, rfl, _, rfl, _, rfl, a, _, 1, _, rfl, rfl, hT1, at1 _ _ _, ba, vs, _, e.b, rfl, rfl, e1, by rw [q1.1, arr_length]; exact ixNat w2, ?_⟩
          have L2 := L1.setB e1 q1 (j := e.b) (v := .ref a) (x := e) ⟨a, rfl, L1.sm _ _ ha⟩
          refine ⟨_, rfl, a, _, 1, _, rfl, rfl, SqT.at_ (L2.sm _ _ ha), at1 _ _ _, ?_⟩
          exact ⟨_, some e.b, _, _, rfl, L2, ps.relax hE he hlt⟩
        · have hle : ¬ cost e.a + e.w < cost e.b := of_decide_eq_false z
          exact ⟨_, last, cost, by_, rfl, L, ps.stay hE he (by omega)⟩
      · rintro _ H2 ⟨v6, last, cost, by_, rfl, L, ps⟩
        rw [hus.1] at ps
        refine ⟨_, rfl, rfl, _, rfl, ?_⟩
        refine ifB (fun z => ?_) (fun z => ?_)
        · have ln := eo_non (of_decide_eq_true z)
          subst ln
          refine ⟨_, rfl, lineN (by simp), fun p np => ?_⟩
          obtain ⟨vs, e1, q1⟩ := L.hb
          have sp := same_new (o := .tup [V.ref ba, V.non]) np
          refine k _ p ba cost by_ none (L.sm.trans sp) upd_same ⟨vs, sp _ _ e1, q1.mono fun _ _ r => BV.mono (stk sp) r⟩ (.inl ⟨rfl, fun e he => ?_⟩)
          obtain ⟨i, hi, e2⟩ := List.getElem_of_mem he
          exact ps.no rfl i e hi (by rw [List.getElem?_eq_getElem hi, e2])
        · obtain ⟨x, rfl⟩ := eo_some (of_decide_eq_false z)
          exact ⟨_, _, some x, cost, by_, rfl, L, ps.bf, ps.next, fun t' e => by
            have : t = t' := by omega
            subst this
            exact ⟨x, rfl, ps⟩⟩
    · rintro _ H1 ⟨v5, v6, last, cost, by_, rfl, L, bf, up, la⟩
      obtain ⟨x, rfl, ps⟩ := la n rfl
      refine ⟨_, rfl, _, rfl, lineN (by simp), fun p np => ?_⟩
      obtain ⟨vs, e1, q1⟩ := L.hb
      have sp := same_new (o := .tup [V.ref ba, eo (some x)]) np
      exact k _ p ba cost by_ (some x) (L.sm.trans sp) upd_same ⟨vs, sp _ _ e1, q1.mono fun _ _ r => BV.mono (stk sp) r⟩ (.inr ⟨x, rfl, ps⟩)
end
end Lo

namespace Lo
open PySem PySem.Spec PyProof.Rows L2
/-! ### gain_of -/
theorem arr_cons {α : Type} (n : Nat) (f : Nat → α) : arr (n + 1) f = f 0 :: arr n (fun i => f (i + 1)) := by
  unfold arr
  rw [List.range_succ_eq_map, List.map_cons, List.map_map]; rfl
theorem rot_arr {α : Type} {c s : Nat} {f : Nat → α} (hs : s < c) : (arr c f).drop s ++ (arr c f).take s = arr c fun i => f (rot c s i) := by
  rw [arr_drop, arr_take (by omega), arr_append, show c - s + s = c by omega]
  refine arr_ext fun i hi => ?_
  unfold rot
  by_cases q : i < c - s
  · rw [if_pos q, if_pos (by omega)]; congr 1; omega
  · rw [if_neg q, if_neg (by omega)]; congr 1; omega
theorem rot_arr1 {α : Type} {c s : Nat} {f : Nat → α} (hs : s < c) : (arr c f).drop (s + 1) ++ (arr c f).take s = arr (c - 1) fun i => f (rot c s (i + 1)) := by
  rw [arr_drop, arr_take (by omega), arr_append, show c - (s + 1) + s = c - 1 by omega]
  refine arr_ext fun i hi => ?_
  unfold rot
  by_cases q : i < c - (s + 1)
  · rw [if_pos q, if_pos (by omega)]; congr 1; omega
  · rw [if_neg q, if_neg (by omega)]; congr 1; omega
theorem atI_prev {xs : List V} {c s : Nat} (hl : xs.length = c) (hs : s < c) : atI xs ((s : Int) - 1) = xs[rot c s (c - 1)]? := by
  unfold atI ixN rot
  rw [hl]
  by_cases q : s = 0
  · subst q
    rw [if_neg (by omega), if_pos (by omega), if_pos (by omega)]
    show xs[(((0 : Nat) : Int) - 1 + c).toNat]? = _
    congr 1; omega
  · rw [if_pos (by omega), if_pos (by omega), if_neg (by omega)]
    show xs[((s : Int) - 1).toNat]? = _
    congr 1; omega
theorem inV_arr {c : Nat} {o : Nat → Nat} {a : Int} : inV (.int a) (arr c fun i => V.int (o i : Nat)) = true ↔ ∃ i, i < c ∧ ((o i : Nat) : Int) = a := by
  unfold inV arr
  simp only [List.any_eq_true, List.mem_map, List.mem_range]
  constructor
  · rintro ⟨_, ⟨i, hi, rfl⟩, e⟩
    exact ⟨i, hi, by simpa [eqV] using e⟩
  · rintro ⟨i, hi, e⟩
    exact ⟨_, ⟨i, hi, rfl⟩, by simp [eqV, e]⟩
theorem flat_arr {c : Nat} {o : Nat → Int} : (arr c fun i => V.int (o i)).all flatV = true := by
  unfold arr
  simp [flatV]
theorem idx_at {K : PySem.W.Frag} {σ : L2.St} {H : Hp} {p : Addr} {c j : Nat} {o : Nat → Nat} {y : Int} {Q : VK} (h : H p = some (.lst (arr c fun i => V.int (o i : Nat)))) (hj : j < c) (inj : ∀ a b, a < c → b < c → o a = o b → a = b) (e : y = (o j : Nat)) (q : Q (.int (j : Nat)) H) :
    tNil σ H fun zs H2 => rIndex K (.ref p) (.int y :: zs) H2 Q := by
  subst e
  refine ⟨p, _, .int (o j : Nat), j, _, rfl, rfl, SqL.at_ h, rfl, flat_arr, arr_get hj, by simp [eqV], fun m z' hm hz => ?_, q⟩
  rw [arr_get (by omega)] at hz
  cases hz
  have : o m ≠ o j := fun e => by have := inj m j (by omega) hj e; omega
  simp [eqV]
  omega
def rIns : V → List V → Hp → VK → Prop := fun x vs H Q => ∃ (l : Addr) (xs : List V) (i : Int) (y : V), x = .ref l ∧ vs = [.int i, y] ∧ H l = some (.lst xs) ∧ xs.length < sizeLine ∧ 0 ≤ i ∧ i < 2 ^ 63 ∧
    Q .non (upd H l (.lst (xs.take i.toNat ++ [y] ++ xs.drop i.toNat)))
theorem mt_ins {X : Cx} : MtR X "list.insert" rIns := mt_insert
theorem ins_at {α : Type} {R : Hp → V → α → Prop} {H0 H : Hp} {fa : Addr} {xs : List α} {σ : L2.St} {i : Nat} (M : Mo R) (h : Lx R H0 fa xs H) (n0 : H0 fa = none) (hl : xs.length ≤ 9999) (hi : i ≤ 9999) {y : V} {x : α} (r : R H y x) {Q : VK}
    (k : ∀ ws, Lx R H0 fa (xs.take i ++ [x] ++ xs.drop i) (upd H fa (.lst ws)) → Tk H (upd H fa (.lst ws)) → Q .non (upd H fa (.lst ws))) : tNil σ H fun zs H2 => rIns (.ref fa) (.int (i : Nat) :: y :: zs) H2 Q := by
  obtain ⟨s, vs, e, q⟩ := h
  refine ⟨fa, vs, _, y, rfl, rfl, e, lineL (by rw [q.1]; omega), by omega, by omega, k _ ⟨same_at s n0, _, upd_same, ?_⟩ (tk_lst e)⟩
  rw [Int.toNat_natCast]
  exact (((q.take i).snoc r).append (q.drop i)).mono fun _ _ r => M (tk_lst e) r
section
variable {P : Program} {w : World} {K : PySem.W.Frag} {mg : Str → Option Value} {base : Heap}
abbrev sGo : Stmt := topS 15
abbrev nGo : List Str := ["froms", "goals", "spare", "legs", "many", "by", "node", "turn", "edges", "at", "order", "first", "end", "edge"]
abbrev aGo : List Str := ["froms", "goals", "spare", "legs"]
theorem scGo : FnScope nGo aGo (defScope sGo) := ⟨rfl, rfl, rfl, by decide +kernel, rfl, by decide +kernel, by decide +kernel⟩
theorem byAt {n : Nat} {H : Hp} {vs : List V} {by_ : Nat → Option Edge} (h : Seq (BV H) vs (arr (n + 1) by_)) {v : Nat} (hv : v < n + 1) (hb : by_ v ≠ none) :
    ∃ a, vs[v]? = some (.ref a) ∧ EV H (.ref a) (ee by_ v) ∧ H a = some (.tup [.int (pr by_ v : Nat), .int ((ee by_ v).b : Nat), .int (ee by_ v).w, eo (ee by_ v).e]) := by
  obtain ⟨u, hu, r⟩ := h.get (arr_get hv)
  cases q : by_ v with
  | none => exact absurd q hb
  | some e =>
    rw [q] at r
    obtain ⟨a, rfl, ha⟩ := r
    have ee' : ee by_ v = e := by unfold ee; rw [q]; rfl
    refine ⟨a, hu, ?_, ?_⟩
    · rw [ee']; exact ⟨a, rfl, ha⟩
    · rw [ee', pr_some q]; exact ha
abbrev jF (fs gs ss : List Col) (u q : Nat → Int) (t : Nat → Nat) : Prop := Fits fs.length (gs ++ ss).length gs.length (sqf fs (gs ++ ss)) u q t
abbrev jG (fs gs ss : List Col) (t : Nat → Nat) (m : Nat) (q : Nat → Nat) (z : Nat) : Prop := Gn fs.length (gs ++ ss).length gs.length (sqf fs (gs ++ ss)) t m q z
def spGo : Sp := fun vs H Q _ => ∃ (x0 x1 x y : V) (fs gs ss : List Col) (t : Nat → Nat), vs = [x0, x1, x, y] ∧ Cols H x ss ∧ Legs H y (legsOf fs (gs ++ ss) t) ∧ Job fs gs ss ∧ jC fs gs ss t ∧
  (∀ H' u q, Same H H' → jF fs gs ss u q t → Q .non H') ∧
  ∀ H' p a m q e z, Same H H' → H' p = some (.tup [.ref a, eo e]) → H' a = some (.tup (arr m fun i => V.int (q i : Nat))) → jG fs gs ss t m q z → (e = none → z = t (q 0)) → (∀ k, e = some k → z = gs.length + k) → m ≤ 60 → Q (.ref p) H'
theorem ok_go (h : Has K mg "gain_of" sGo aGo) (B : Bl mg) (G1 : Kept P w K mg base 2 "edges_of" ["spare", "legs"] spEd) (G2 : Kept P w K mg base 1 "led_on" ["edges", "many"] spLe) : Kept P w K mg base 3 "gain_of" aGo spGo := by
  refine h.kept fun f fd F => F.ok scGo (fun vs H Q E h => ?_) (fun cdv A outer s H vs Q E hr h => ?_)
  · obtain ⟨x0, x1, x, y, fs, gs, ss, t, rfl, _⟩ := h
    rfl
  · obtain ⟨x0, x1, x, y, fs, gs, ss, t, rfl, hx, hy, J, C, k0, k1⟩ := h
    refine ⟨_, pss_cons (ps_set (i := 4) scGo.nd rfl (.inl rfl) (pe_callB (lenQ K rfl) (by rfl) B.len (by decide +kernel) (pa_cons (pv 3) pa_nil)))
      (pss_cons (ps_asg (pcall G2 (hr.mono (by decide)) (by rfl) (pa_cons (pcall G1 hr (by rfl) (pa_cons (pv 2) (pa_cons (pv 3) pa_nil))) (pa_cons (pv 4) pa_nil))) (pg_tup rfl (pgs_cons (pg_name (i := 5) scGo.nd rfl (.inl rfl)) (pgs_cons (pg_name (i := 6) scGo.nd rfl (.inl rfl)) pgs_nil))))
      (pss_cons (ps_if (pt_cmpR op_isN (pv 6) pe_non (nomark _)) (pss_one (ps_ret pe_non)) pss_nil)
      (pss_cons (ps_for PassesOwn.never rfl (pi_range1 (by rfl) B.range (pa_cons (pe_op op_add (pv 4) pe_int) pa_nil)) (pg_name (i := 7) scGo.nd rfl (.inl rfl))
        (pss_one (ps_set (i := 6) scGo.nd rfl (.inl rfl) (pe_ix (ixT K rfl) (pe_ix (ixL K rfl) (pv 5) (pv 6) (fun _ _ => rfl)) pe_int (fun _ _ => rfl)))))
      (pss_cons (ps_par (i := 8) (j := 9) rfl scGo.nd rfl rfl (by decide) rfl rfl (pa_cons (pe_lst (pa_cons (pe_ix (ixL K rfl) (pv 5) (pv 6) (fun _ _ => rfl)) pa_nil)) (pa_cons (pe_ix (ixT K rfl) (pe_ix (ixL K rfl) (pv 5) (pv 6) (fun _ _ => rfl)) pe_int (fun _ _ => rfl)) pa_nil)) rfl)
      (pss_cons (ps_while PassesOwn.never (pt_cmpR op_ne (pv 9) (pv 6) (nomark _))
        (pss_cons (ps_expr (pe_bm PySem.F.plainAttrs_list PySem.F.slot_list_insert PySem.F.type_list_insert mt_ins (pv 8) (pa_cons pe_int (pa_cons (pe_ix (ixL K rfl) (pv 5) (pv 9) (fun _ _ => rfl)) pa_nil))))
        (pss_one (ps_set (i := 9) scGo.nd rfl (.inl rfl) (pe_ix (ixT K rfl) (pe_ix (ixL K rfl) (pv 5) (pv 9) (fun _ _ => rfl)) pe_int (fun _ _ => rfl))))))
      (pss_cons (ps_setLc (i := 10) (own := [("edge", 13)]) (g := gName 13) (tt := tYes) rfl scGo.nd rfl rfl (sw_true rfl rfl rfl (by decide +kernel)) (pi_list (pv 8)) (blkOk_by (N := nGo) (sc := defScope sGo) (by decide +kernel)) (fun _ _ _ _ _ => pg_name (i := 13) scGo.nd rfl (Or.inl rfl)) (fun _ _ _ _ _ => pts_nil)
          (fun _ _ _ _ _ => pe_ix (ixT K rfl) (pv 13) pe_int (fun _ _ => rfl)))
      (pss_cons (ps_if (pt_cmpR op_notIn_seq (pv 4) (pv 10) rfl)
        (pss_cons (ps_set (i := 11) scGo.nd rfl (.inl rfl) (pe_bm PySem.F.plainAttrs_list PySem.F.slot_list_index PySem.F.type_list_index mt_index (pv 10) (pa_cons (pe_callB (cr_min rfl) (by rfl) B.min (by decide +kernel) (pa_cons (pv 10) pa_nil)) pa_nil)))
        (pss_one (ps_ret (pe_tup (pa_cons (pe_callTy call_tuple_of (by rfl) B.tuple (by decide +kernel) (pa_cons (pe_op op_cat (pe_slice sl_list (pv 10) (po_some (pv 11)) po_none) (pe_slice sl_list (pv 10) po_none (po_some (pv 11)))) pa_nil)) (pa_cons pe_non pa_nil)))))) pss_nil)
      (pss_cons (ps_set (i := 9) scGo.nd rfl (.inl rfl) (pe_bm PySem.F.plainAttrs_list PySem.F.slot_list_index PySem.F.type_list_index mt_index (pv 10) (pa_cons (pv 4) pa_nil)))
      (pss_cons (ps_set (i := 12) scGo.nd rfl (.inl rfl) (pe_ix (ixT K rfl) (pe_ix (ixL K rfl) (pv 8) (pe_op op_sub (pv 9) pe_int) (fun _ _ => rfl)) pe_int (fun _ _ => rfl)))
      (pss_one (ps_ret (pe_tup (pa_cons (pe_callTy call_tuple_of (by rfl) B.tuple (by decide +kernel) (pa_cons (pe_op op_cat (pe_slice sl_list (pv 10) (po_some (pe_op op_add (pv 9) pe_int)) po_none) (pe_slice sl_list (pv 10) po_none (po_some (pv 9)))) pa_nil)) (pa_cons (pv 12) pa_nil)))))))))))))), ?_⟩
    have hx0 := hx
    have hy0 := hy
    have hnl := J.n
    have hsl := J.s
    obtain ⟨yp, yv, rfl, hyp, hys⟩ := hy
    have hyl : yv.length = fs.length := by rw [hys.1, legsOf_len]
    have hfl : (frs fs gs ss t).length ≤ 50 := Nat.le_trans (frs_len fs gs ss t) hsl
    have elen : (edsOf fs gs ss t fs.length).length ≤ fs.length * 101 := eds_len hnl hfl _
    have Em : ∀ e, e ∈ edsOf fs gs ss t fs.length ↔ Ed fs.length (gs ++ ss).length gs.length (sqf fs (gs ++ ss)) t e := fun e => eds_iff (frs_mem J C)
    have hE : Ew (fs.length + 1) (edsOf fs gs ss t fs.length) := Ed.ew fun e he => (Em e).mp he
    refine ⟨_, rfl, yp, yv, rfl, .inr (SqT.at_ hyp), ?_⟩
    rw [hyl]
    refine ⟨_, rfl, _, rfl, x, .ref yp, fs, gs, ss, t, rfl, hx0, hy0, J, C, fun H1 ep us s1 hep hus => ?_⟩
    refine ⟨_, rfl, ep, us, _, fs.length, rfl, hep, hus, hE, by omega, by omega, fun H2 p b cost by_ last s2 hp hb alt => ?_⟩
    obtain ⟨bs, hbs, hq⟩ := hb
    have s12 := s1.trans s2
    refine ⟨p, _, rfl, SqT.at_ hp, rfl, _, _, rfl, _, _, rfl, rfl, ?_⟩
    refine ⟨_, rfl, rfl, _, rfl, ?_⟩
    rcases alt with ⟨rfl, hno⟩ | ⟨nd, rfl, ps⟩
    · refine ifB (fun _ => ?_) (fun z => absurd z (by simp [eo]))
      exact k0 _ _ _ s12 (fits_of C fun e he => hno e ((Em e).mpr he))
    · refine ifB (fun z => absurd z (by simp [eo])) (fun _ => ?_)
      obtain ⟨hd, hl, c0, hc0, hr0⟩ := ps.round hE
      refine ⟨_, rfl, _, _, rfl, rfl, _, rfl, by omega, by omega, ?_⟩
      rw [show ((fs.length : Int) + 1).toNat = fs.length + 1 by omega]
      refine for_rg (fun m σ H' => ∃ v7, σ = [some x0, some x1, some x, some (.ref yp), some (.int (fs.length : Nat)), some (.ref b), some (.int (it (pr by_) m nd : Nat)), v7, none, none, none, none, none, none] ∧ H2 = H') ⟨none, rfl, rfl⟩ ?_ ?_
      · rintro m _ _ hm ⟨v7, rfl, rfl⟩
        obtain ⟨a, ha1, _, ha2⟩ := byAt hq (hl m) (hd m)
        refine ⟨_, rfl, _, rfl, ixX hbs ha1 ⟨a, _, 0, _, rfl, rfl, SqT.at_ ha2, at0 _ _, ?_⟩⟩
        exact ⟨_, rfl, rfl⟩
      · rintro _ _ ⟨v7, rfl, rfl⟩
        obtain ⟨y, ey⟩ : ∃ y, y = it (pr by_) (fs.length + 1) nd := ⟨_, rfl⟩
        rw [← ey] at hr0 ⊢
        have hd' : ∀ s, by_ (it (pr by_) s y) ≠ none := fun s => by rw [ey, ← it_add]; exact hd _
        have hl' : ∀ s, it (pr by_) s y < fs.length + 1 := fun s => by rw [ey, ← it_add]; exact hl _
        obtain ⟨c, ⟨hc1, hc2⟩, hc3⟩ := least_nat (P := fun c => 1 ≤ c ∧ it (pr by_) c y = y) c0 ⟨hc0, hr0⟩
        have R := round_of ps.bf hE hd' hl' hc1 hc2 fun k h1 h2 e => hc3 k h2 ⟨h1, e⟩
        have hcn : c ≤ fs.length + 1 := inj_le R.lt R.inj
        have hEd : ∀ e, e ∈ edsOf fs gs ss t fs.length → Ed fs.length (gs ++ ss).length gs.length (sqf fs (gs ++ ss)) t e := fun e he => (Em e).mp he
        obtain ⟨a, ha1, ha0, ha2⟩ := byAt hq (hl' 0) (hd' 0)
        refine ⟨_, rfl, _, rfl, ixX hbs ha1 ⟨lineN (by simp), fun fe nfe => ?_⟩⟩
        have sf := same_new (o := .lst [V.ref a]) nfe
        refine ⟨_, rfl, _, rfl, ixX (sf _ _ hbs) ha1 ⟨a, _, 0, _, rfl, rfl, SqT.at_ (sf _ _ ha2), at0 _ _, _, _, rfl, ?_⟩⟩
        have L0 : Lx EV H2 fe (arr (0 + 1) fun i => ee by_ (it (pr by_) (0 - i) y)) (upd H2 fe (.lst [V.ref a])) := ⟨sf, _, upd_same, Seq.cons (EV.mono (stk sf) ha0) Seq.nil⟩
        refine ⟨fun m σ H' => ∃ k, k + 1 ≤ c ∧ m = c - (k + 1) ∧ (∃ v7, σ = [some x0, some x1, some x, some (.ref yp), some (.int (fs.length : Nat)), some (.ref b), some (.int (y : Nat)), v7, some (.ref fe), some (.int (it (pr by_) (k + 1) y : Nat)), none, none, none, none]) ∧ Lx EV H2 fe (arr (k + 1) fun i => ee by_ (it (pr by_) (k - i) y)) H',
          ⟨_, 0, by omega, rfl, ⟨_, rfl⟩, L0⟩, ?_⟩
        rintro m _ H3 ⟨k, hk, rfl, ⟨v7, rfl⟩, L⟩
        refine ⟨_, rfl, _, rfl, rfl, _, rfl, ?_⟩
        refine ifB (fun z => ?_) (fun z => ?_)
        · have hne : it (pr by_) (k + 1) y ≠ y := fun e => by rw [e] at z; simp at z
          have hk2 : k + 1 ≠ c := fun e => hne (by rw [e]; exact hc2)
          refine ⟨_, fun _ _ h => h, ?_⟩
          obtain ⟨a', hb1, hb0, hb2⟩ := byAt hq (hl' (k + 1)) (hd' (k + 1))
          refine ⟨_, rfl, L.ty, _, rfl, _, rfl, ixX (L.sm _ _ hbs) hb1 (ins_at (i := 0) EV.mono L nfe (by rw [arr_length]; omega) (by omega) (EV.mono (stk L.sm) hb0) fun H4 L4 _ => ?_)⟩
          refine ⟨_, rfl, _, rfl, ixX (L4.sm _ _ hbs) hb1 ⟨a', _, 0, _, rfl, rfl, SqT.at_ (L4.sm _ _ hb2), at0 _ _, ?_⟩⟩
          refine ⟨_, by omega, k + 1, by omega, rfl, ⟨_, rfl⟩, ?_⟩
          have e : (arr (k + 1 + 1) fun i => ee by_ (it (pr by_) (k + 1 - i) y)) = (arr (k + 1) fun i => ee by_ (it (pr by_) (k - i) y)).take 0 ++ [ee by_ (it (pr by_) (k + 1) y)] ++ (arr (k + 1) fun i => ee by_ (it (pr by_) (k - i) y)).drop 0 := by
            rw [arr_cons, List.take_zero, List.drop_zero, List.nil_append, List.singleton_append]
            congr 1
            exact arr_ext fun i _ => by rw [show k + 1 - (i + 1) = k - i by omega]
          rw [e]
          exact L4
        · have hky : it (pr by_) (k + 1) y = y := by
            have q : ((it (pr by_) (k + 1) y : Nat) : Int) = (y : Int) := by simpa using z
            omega
          have hkc : k + 1 = c := by
            by_cases q : k + 1 < c
            · exact absurd ⟨by omega, hky⟩ (hc3 _ q)
            · omega
          subst hkc
          have L' : Lx EV H2 fe (arr (k + 1) fun i => ee by_ (it (pr by_) (k + 1 - 1 - i) y)) H3 := L
          obtain ⟨s3, es, hes, hesq⟩ := L'
          have hesl : es.length = k + 1 := by rw [hesq.1, arr_length]
          refine ⟨_, rfl, fe, rfl, ⟨_, SqL.at_ hes⟩, fun D nD => ?_⟩
          refine lcT (walk_list (K := K) (a := fe) (xs := es)) (fun i acc _ => acc = arr i fun i => V.int (it (pr by_) (k + 1 - i) y : Nat)) (by omega) nD (fun _ _ _ _ _ v => v) rfl (fun H' s => SqL.at_ (s _ _ hes)) ?_ ?_
          · rintro i u H4 _ acc hi s4 rfl ⟨rfl, hu⟩ Ky Kn ky kn
            obtain ⟨e, he, a, rfl, ha⟩ := hesq.get' hu
            rw [arr_get (by omega)] at he
            cases he
            refine ⟨rfl, ?_⟩
            refine ⟨_, rfl, a, _, 0, _, rfl, rfl, SqT.at_ (s4 _ _ ha), at0 _ _, ky _ _ (.refl _) ?_⟩
            rw [arr_succ, ← R.fr i (by omega)]
          · intro H4 acc s4 hD _ v4
            rw [hesl] at v4
            subst v4
            have sH4 := (s12.trans s3).trans s4
            refine ⟨_, rfl, _, rfl, D, _, rfl, .inl (SqL.at_ hD), rfl, flat_arr, _, rfl, ?_⟩
            refine ifB (fun z => ?_) (fun z => ?_)
            · have hno : ∀ i, i < k + 1 → it (pr by_) (k + 1 - i) y ≠ fs.length := fun i hi e => by
                have z : (!inV (.int (fs.length : Nat)) (arr (k + 1) fun i => V.int (it (pr by_) (k + 1 - i) y : Nat))) = true := z
                rw [inV_arr.mpr ⟨i, hi, by rw [e]⟩] at z
                cases z
              refine ⟨_, rfl, .inl ⟨rfl, _, SqL.at_ hD⟩, _, rfl, D, arr (k + 1) (fun i => ((it (pr by_) (k + 1 - i) y : Nat) : Int)), rfl, by rw [arr_map]; exact SqL.at_ hD, by rw [arr_length]; omega, fun m hm hle => ?_⟩
              obtain ⟨s, hs, rfl⟩ := List.mem_map.mp hm
              have hs := List.mem_range.mp hs
              refine idx_at hD hs R.inj rfl ?_
              refine ⟨_, rfl, _, rfl, _, rfl, D, _, rfl, SqL.at_ hD, fun b1 nb1 => ?_⟩
              rw [cut_from]
              have t1 := same_new (o := .lst ((arr (k + 1) fun i => V.int (it (pr by_) (k + 1 - i) y : Nat)).drop s)) nb1
              refine ⟨_, rfl, _, rfl, _, rfl, D, _, rfl, SqL.at_ (t1 _ _ hD), fun b2 nb2 => ?_⟩
              rw [cut_to]
              have t2 := same_new (o := .lst ((arr (k + 1) fun i => V.int (it (pr by_) (k + 1 - i) y : Nat)).take s)) nb2
              refine ⟨b1, b2, _, _, rfl, rfl, t2 _ _ upd_same, upd_same, lineN (by rw [List.length_drop, List.length_take, arr_length]; omega), fun b3 nb3 => ?_⟩
              rw [rot_arr hs]
              have t3 := same_new (o := .lst (arr (k + 1) fun i => V.int (it (pr by_) (k + 1 - rot (k + 1) s i) y : Nat))) nb3
              refine ⟨b3, _, rfl, .inl ⟨SqL.at_ upd_same, fun b4 nb4 => ?_⟩⟩
              have t4 := same_new (o := .tup (arr (k + 1) fun i => V.int (it (pr by_) (k + 1 - rot (k + 1) s i) y : Nat))) nb4
              refine ⟨lineN (by simp), fun b5 nb5 => ?_⟩
              have t5 := same_new (o := .tup [V.ref b4, V.non]) nb5
              exact k1 _ b5 b4 (k + 1) (fun i => it (pr by_) (k + 1 - rot (k + 1) s i) y) none _ (((((sH4.trans t1).trans t2).trans t3).trans t4).trans t5) upd_same (t5 _ _ upd_same)
                ((R.rot hs).plain hEd fun i hi => hno _ (rot_lt hs hi)) (fun _ => rfl) (fun k e => nomatch e) (by omega)
            · have z : (!inV (.int (fs.length : Nat)) (arr (k + 1) fun i => V.int (it (pr by_) (k + 1 - i) y : Nat))) = false := z
              have z' : inV (.int (fs.length : Nat)) (arr (k + 1) fun i => V.int (it (pr by_) (k + 1 - i) y : Nat)) = true := by simpa using z
              obtain ⟨s, hs, hsn⟩ := inV_arr.mp z'
              have hsn : it (pr by_) (k + 1 - s) y = fs.length := by omega
              have h0 : it (pr by_) (k + 1 - rot (k + 1) s 0) y = fs.length := by rw [show rot (k + 1) s 0 = s by unfold rot; rw [if_pos (by omega)]; omega]; exact hsn
              obtain ⟨kk, h2, he, hlt, hfree, hg, Gg⟩ := (R.rot hs).free hEd h0
              refine ⟨_, rfl, .inl ⟨rfl, _, SqL.at_ hD⟩, _, rfl, idx_at hD hs R.inj (by rw [hsn]) ?_⟩
              have hrl : rot (k + 1) s (k + 1 - 1) < k + 1 := rot_lt hs (by omega)
              obtain ⟨ev, hev, ea, rfl, hea⟩ := hesq.get (arr_get hrl)
              rw [he] at hea
              refine ⟨_, rfl, _, rfl, _, _, rfl, rfl, fe, es, _, .ref ea, rfl, rfl, SqL.at_ (s4 _ _ hes), by rw [atI_prev hesl hs]; exact hev, ea, _, 3, _, rfl, rfl, SqT.at_ (s4 _ _ hea), at3 _ _ _ _ _, ?_⟩
              refine ⟨_, rfl, _, rfl, _, _, rfl, rfl, _, rfl, D, _, rfl, SqL.at_ hD, fun b1 nb1 => ?_⟩
              rw [show ((s : Int) + 1) = ((s + 1 : Nat) : Int) by omega, cut_from]
              have t1 := same_new (o := .lst ((arr (k + 1) fun i => V.int (it (pr by_) (k + 1 - i) y : Nat)).drop (s + 1))) nb1
              refine ⟨_, rfl, _, rfl, _, rfl, D, _, rfl, SqL.at_ (t1 _ _ hD), fun b2 nb2 => ?_⟩
              rw [cut_to]
              have t2 := same_new (o := .lst ((arr (k + 1) fun i => V.int (it (pr by_) (k + 1 - i) y : Nat)).take s)) nb2
              refine ⟨b1, b2, _, _, rfl, rfl, t2 _ _ upd_same, upd_same, lineN (by rw [List.length_drop, List.length_take, arr_length]; omega), fun b3 nb3 => ?_⟩
              rw [rot_arr1 hs]
              have t3 := same_new (o := .lst (arr (k + 1 - 1) fun i => V.int (it (pr by_) (k + 1 - rot (k + 1) s (i + 1)) y : Nat))) nb3
              refine ⟨b3, _, rfl, .inl ⟨SqL.at_ upd_same, fun b4 nb4 => ?_⟩⟩
              have t4 := same_new (o := .tup (arr (k + 1 - 1) fun i => V.int (it (pr by_) (k + 1 - rot (k + 1) s (i + 1)) y : Nat))) nb4
              refine ⟨_, rfl, lineN (by simp), fun b5 nb5 => ?_⟩
              have t5 := same_new (o := .tup [V.ref b4, eo (some kk)]) nb5
              exact k1 _ b5 b4 (k + 1 - 1) (fun i => it (pr by_) (k + 1 - rot (k + 1) s (i + 1)) y) (some kk) _ (((((sH4.trans t1).trans t2).trans t3).trans t4).trans t5) upd_same (t5 _ _ upd_same)
                Gg (fun e => nomatch e) (fun k e => by cases e; rfl) (by omega)
end
end Lo

namespace Lo
open PySem PySem.Spec PyProof.Rows L2
/-! ### gained, gained_often -/
def tS (t q nx : Nat → Nat) : Nat → Nat → Nat
  | 0, j => t j
  | i + 1, j => if j = q i then nx i else tS t q nx i j
theorem tS_out {t q nx : Nat → Nat} {j : Nat} : ∀ {i : Nat}, (∀ k, k < i → q k ≠ j) → tS t q nx i j = t j
  | 0, _ => rfl
  | i + 1, h => by
    unfold tS
    rw [if_neg (fun e => h i (by omega) e.symm)]
    exact tS_out fun k hk => h k (by omega)
theorem tS_in {t q nx : Nat → Nat} {m : Nat} (inj : ∀ a b, a < m → b < m → q a = q b → a = b) {k : Nat} : ∀ {i : Nat}, i ≤ m → k < i → tS t q nx i (q k) = nx k
  | 0, _, h => absurd h (by omega)
  | i + 1, hm, h => by
    unfold tS
    by_cases e : k = i
    · rw [e, if_pos rfl]
    · rw [if_neg (fun z => e (inj k i (by omega) (by omega) z))]
      exact tS_in inj (i := i) (by omega) (by omega)
theorem shift_arr {α : Type} {m : Nat} {f : Nat → α} {c : α} (hm : 0 < m) : (arr m f).drop 1 ++ [c] = arr m fun i => if i + 1 < m then f (i + 1) else c := by
  obtain ⟨k, rfl⟩ : ∃ k, m = k + 1 := ⟨m - 1, by omega⟩
  rw [arr_drop, Nat.add_sub_cancel, arr_succ k]
  rw [if_neg (by omega)]
  congr 1
  exact arr_ext fun i hi => by rw [if_pos (by omega), Nat.add_comm 1 i]
theorem legs_set {fs ts : List Col} {t : Nat → Nat} {j c : Nat} : (legsOf fs ts t).set j (fs.getD j z2, ts.getD c z2) = legsOf fs ts fun k => if k = j then c else t k := by
  unfold legsOf
  rw [arr_set]
  refine arr_ext fun k _ => ?_
  by_cases e : k = j
  · rw [if_pos e]
    show _ = (fs.getD k z2, ts.getD (if k = j then c else t k) z2)
    rw [if_pos e, e]
  · rw [if_neg e]
    show _ = (fs.getD k z2, ts.getD (if k = j then c else t k) z2)
    rw [if_neg e]
theorem leg_get {fs ts : List Col} {t : Nat → Nat} {H : Hp} {us : List V} (h : Seq (LV H) us (legsOf fs ts t)) {i : Nat} (hi : i < fs.length) :
    ∃ a x y, us[i]? = some (.ref a) ∧ H a = some (.tup [x, y]) ∧ CV H x (fs.getD i z2) ∧ CV H y (ts.getD (t i) z2) := by
  obtain ⟨v, hv, a, x, y, rfl, h2, h3, h4⟩ := h.get (i := i) (x := (fs.getD i z2, ts.getD (t i) z2)) (by unfold legsOf; rw [arr_get hi])
  exact ⟨a, x, y, hv, h2, h3, h4⟩
theorem LV.mo : Mo LV := fun k _ _ h => h.mono k
section
variable {P : Program} {w : World} {K : PySem.W.Frag} {mg : Str → Option Value} {base : Heap}
abbrev sGd : Stmt := topS 12
abbrev nGd : List Str := ["spare", "legs", "gain", "order", "end", "found", "index", "tos", "last", "to"]
theorem scGd : FnScope nGd ["spare", "legs", "gain"] (defScope sGd) := ⟨rfl, rfl, rfl, by decide +kernel, rfl, by decide +kernel, by decide +kernel⟩
abbrev jP (fs gs ss : List Col) (t : Nat → Nat) : Int := price fs.length (sqf fs (gs ++ ss)) t
def spGd : Sp := fun vs H Q _ => ∃ (x y : V) (fs gs ss : List Col) (t : Nat → Nat) (g a : Addr) (m : Nat) (q : Nat → Nat) (e : Option Nat) (z : Nat), vs = [x, y, .ref g] ∧ Cols H x ss ∧ Legs H y (legsOf fs (gs ++ ss) t) ∧ Job fs gs ss ∧ jC fs gs ss t ∧
  H g = some (.tup [.ref a, eo e]) ∧ H a = some (.tup (arr m fun i => V.int (q i : Nat))) ∧ jG fs gs ss t m q z ∧ (e = none → z = t (q 0)) ∧ (∀ k, e = some k → z = gs.length + k) ∧ m ≤ 60 ∧
  ∀ H' v t', Same H H' → Legs H' v (legsOf fs (gs ++ ss) t') → jC fs gs ss t' → jP fs gs ss t' < jP fs gs ss t → Q v H'
theorem ok_gd (h : Has K mg "gained" sGd ["spare", "legs", "gain"]) (B : Bl mg) : Kept P w K mg base 1 "gained" ["spare", "legs", "gain"] spGd := by
  refine h.kept fun f fd F => F.ok scGd (fun vs H Q E h => ?_) (fun cdv A outer s H vs Q E hr h => ?_)
  · obtain ⟨x, y, fs, gs, ss, t, g, a, m, q, e, z, rfl, _⟩ := h
    rfl
  · obtain ⟨x, y, fs, gs, ss, t, g, a, m, q, e, z, rfl, hx, hy, J, C, hg, ha, Gg, hz0, hz1, hm, k⟩ := h
    refine ⟨_, pss_cons (ps_asg (pv 2) (pg_tup rfl (pgs_cons (pg_name (i := 3) scGd.nd rfl (.inl rfl)) (pgs_cons (pg_name (i := 4) scGd.nd rfl (.inl rfl)) pgs_nil))))
      (pss_cons (ps_set (i := 5) scGd.nd rfl (.inl rfl) (pe_callTy call_list_of (by rfl) B.list (by decide +kernel) (pa_cons (pv 1) pa_nil)))
      (pss_cons (ps_setLc (i := 7) (own := [("index", 6)]) (g := gName 6) (tt := tYes) rfl scGd.nd rfl rfl (sw_true rfl rfl rfl (by decide +kernel)) (pi_tup (pv 3)) (blkOk_by (N := nGd) (sc := defScope sGd) (by decide +kernel)) (fun _ _ _ _ _ => pg_name (i := 6) scGd.nd rfl (Or.inl rfl)) (fun _ _ _ _ _ => pts_nil)
          (fun _ _ _ _ _ => pe_ix (ixT K rfl) (pe_ix (ixT K rfl) (pv 1) (pv 6) (fun _ _ => rfl)) pe_int (fun _ _ => rfl)))
      (pss_cons (ps_set (i := 8) scGd.nd rfl (.inl rfl) (pe_ifExp (pt_cmpR op_isN (pv 4) pe_non (nomark _)) (pe_ix (ixL K rfl) (pv 7) pe_int (fun _ _ => rfl)) (pe_ix (ixT K rfl) (pv 0) (pv 4) (fun _ _ => rfl))))
      (pss_cons (ps_for PassesOwn.never rfl (pi_zpB true false (by rfl) B.zip (pa_cons (pv 3) (pa_cons (pe_op op_cat (pe_slice sl_list (pv 7) (po_some pe_int) po_none) (pe_lst (pa_cons (pv 8) pa_nil))) pa_nil))) (pg_tup rfl (pgs_cons (pg_name (i := 6) scGd.nd rfl (.inl rfl)) (pgs_cons (pg_name (i := 9) scGd.nd rfl (.inl rfl)) pgs_nil)))
        (pss_one (ps_asg (pe_tup (pa_cons (pe_ix (ixT K rfl) (pe_ix (ixT K rfl) (pv 1) (pv 6) (fun _ _ => rfl)) pe_int (fun _ _ => rfl)) (pa_cons (pv 9) pa_nil))) (pg_sub (pv 5) (pv 6) set_list))))
      (pss_one (ps_ret (pe_callTy call_tuple_of (by rfl) B.tuple (by decide +kernel) (pa_cons (pv 5) pa_nil)))))))), ?_⟩
    obtain ⟨xp, xv, rfl, hxp, hxs⟩ := hx
    obtain ⟨yp, yv, rfl, hyp, hys⟩ := hy
    have hN : (gs ++ ss).length = gs.length + ss.length := List.length_append
    have hnl := J.n
    have hyl : yv.length = fs.length := by rw [hys.1, legsOf_len]
    have hm0 := Gg.pos
    refine ⟨_, rfl, g, _, rfl, SqT.at_ hg, rfl, _, _, rfl, _, _, rfl, rfl, ?_⟩
    refine ⟨_, rfl, yp, yv, rfl, .inr (SqT.at_ hyp), fun fa nfa => ?_⟩
    have s1 := same_new (o := .lst yv) nfa
    refine ⟨_, rfl, a, rfl, ⟨_, SqT.at_ (s1 _ _ ha)⟩, fun D nD => ?_⟩
    refine lcT (walk_tup (K := K) (a := a) (xs := arr m fun i => V.int (q i : Nat))) (fun i acc H' => Seq (CV H') acc (arr i fun i => (gs ++ ss).getD (t (q i)) z2)) (by rw [arr_length]; omega) nD (fun _ _ _ _ t v => v.mono fun _ _ r => r.mono t) Seq.nil (fun H' s => SqT.at_ (s _ _ (s1 _ _ ha))) ?_ ?_
    · rintro i _ H2 _ acc hi s2 v ⟨rfl, hu⟩ Ky Kn ky kn
      rw [arr_length] at hi
      rw [arr_get hi] at hu
      cases hu
      obtain ⟨b, bx, bt, hb0, hb1, hb2, hb3⟩ := leg_get hys (Gg.lt i hi)
      have s3 := s1.trans s2
      refine ⟨rfl, ?_⟩
      refine ⟨_, rfl, _, rfl, yp, yv, _, .ref b, rfl, rfl, SqT.at_ (s3 _ _ hyp), atI_nat hb0, b, _, 1, _, rfl, rfl, SqT.at_ (s3 _ _ hb1), at1 _ _ _, ky _ _ (.refl _) ?_⟩
      rw [arr_succ]
      exact v.snoc (hb3.mono (stk s3))
    · intro H2 acc s2 hD _ v
      rw [arr_length] at v
      have s3 := s1.trans s2
      have hDf : D ≠ fa := (ne_new (upd_same : upd H fa (.lst yv) fa = some (.lst yv)) nD).symm
      refine ⟨_, rfl, rfl, _, rfl, ?_⟩
      refine ifQ (fun lv => CV H2 lv ((gs ++ ss).getD z z2)) (fun ze Qx mk => ?A) (fun ze Qx mk => ?B) ?rest
      case A =>
        have en := eo_non (of_decide_eq_true ze)
        obtain ⟨v0, hv0, hc0⟩ := v.get (arr_get hm0)
        rw [← hz0 en] at hc0
        exact ⟨_, rfl, D, acc, 0, v0, rfl, rfl, SqL.at_ hD, atI_nat (j := 0) hv0, mk v0 hc0⟩
      case B =>
        obtain ⟨kk, ek⟩ := eo_some (of_decide_eq_false ze)
        have hzk := hz1 kk ek
        have hzN : z < gs.length + ss.length := by
          rcases Gg.last with h | h
          · rw [h]; have := C.lt _ (Gg.lt 0 hm0); omega
          · omega
        obtain ⟨cv, hcv, hcc⟩ := hxs.get (spare_at (gs := gs) (k := kk) (by omega))
        rw [← hzk] at hcc
        subst ek
        exact ⟨_, rfl, _, rfl, xp, xv, _, cv, rfl, rfl, SqT.at_ (s3 _ _ hxp), atI_nat hcv, mk cv (hcc.mono (stk s3))⟩
      case rest =>
        intro lv hlv
        refine ⟨_, rfl, _, rfl, _, rfl, D, acc, rfl, SqL.at_ hD, fun b1 nb1 => ?_⟩
        rw [show (some (1 : Int)) = some ((1 : Nat) : Int) from rfl, cut_from]
        have t1 := same_new (o := .lst (acc.drop 1)) nb1
        refine ⟨_, rfl, lineN (by simp), fun b2 nb2 => ?_⟩
        have t2 := same_new (o := .lst [lv]) nb2
        have hal : acc.length = m := by rw [v.1, arr_length]
        refine ⟨b1, b2, _, _, rfl, rfl, t2 _ _ upd_same, upd_same, lineN (by rw [List.length_drop]; simp; omega), fun b3 nb3 => ?_⟩
        have t3 := same_new (o := .lst (acc.drop 1 ++ [lv])) nb3
        have t123 := (t1.trans t2).trans t3
        have s4 := s3.trans t123
        have tos : Seq (CV H2) (acc.drop 1 ++ [lv]) (arr m fun i => (gs ++ ss).getD (if i + 1 < m then t (q (i + 1)) else z) z2) := by
          have e : (arr m fun i => (gs ++ ss).getD (if i + 1 < m then t (q (i + 1)) else z) z2) = (arr m fun i => (gs ++ ss).getD (t (q i)) z2).drop 1 ++ [(gs ++ ss).getD z z2] := by
            rw [shift_arr hm0]
            exact arr_ext fun i _ => by split <;> rfl
          rw [e]
          exact (v.drop 1).snoc hlv
        -- the heap but the list
        generalize hH4 : upd (upd (upd H2 b1 (.lst (acc.drop 1))) b2 (.lst [lv])) b3 (.lst (acc.drop 1 ++ [lv])) = H4 at t3 t123 s4
        have e3 : H4 b3 = some (.lst (acc.drop 1 ++ [lv])) := by rw [← hH4]; exact upd_same
        have efa : H4 fa = some (.lst yv) := t123 _ _ (s2 _ _ upd_same)
        have n3f : b3 ≠ fa := by
          intro e
          have z := t2 _ _ (t1 _ _ (s2 _ _ (upd_same : upd H fa (.lst yv) fa = _)))
          rw [← e, nb3] at z; cases z
        have sd : Same H (del H4 fa) := same_del s4 nfa
        have nd0 : del H4 fa fa = none := if_pos rfl
        have d3 : del H4 fa b3 = some (.lst (acc.drop 1 ++ [lv])) := by rw [del_ne n3f]; exact e3
        have L0 : Lx LV (del H4 fa) fa (legsOf fs (gs ++ ss) t) H4 := ⟨del_to, yv, efa, hys.mono fun _ _ r => r.mono (stk s4)⟩
        have tk2 : Tk H2 (del H4 fa) := fun b xs e => by
          rw [del_ne (ne_of e (s2 _ _ upd_same) (by intro z; cases z))]
          exact t123 _ _ e
        refine ⟨a, b3, _, _, rfl, SqT.at_ (s4 _ _ ha), SqL.at_ e3, ?_⟩
        refine for_it (walk_zpB (K := K) (b := true) (c := false) (a := a) (d := b3) (xs := arr m fun i => V.int (q i : Nat)) (ys := acc.drop 1 ++ [lv])) (fun i σ H' => ∃ v6 v9, σ = [some (.ref xp), some (.ref yp), some (.ref g), some (.ref a), some (eo e), some (.ref fa), v6, some (.ref D), some lv, v9] ∧
            Lx LV (del H4 fa) fa (legsOf fs (gs ++ ss) (tS t q (fun i => if i + 1 < m then t (q (i + 1)) else z) i)) H') ⟨_, _, rfl, L0⟩ (fun i σ H' _ ⟨_, _, _, L⟩ => ⟨SqT.at_ (L.sm _ _ (sd _ _ ha)), SqL.at_ (L.sm _ _ d3)⟩) ?_ ?_
        · rintro i _ _ H5 _ hi ⟨v6, v9, rfl, L⟩ ⟨T, x1, y1, rfl, nT, rfl, e1', e2'⟩
          have hi : i < m := by rw [arr_length] at hi; omega
          have e1' : (arr m fun i => V.int (q i : Nat))[i]? = some x1 := e1'
          rw [arr_get hi] at e1'
          cases e1'
          obtain ⟨cc, hcc, hct⟩ := tos.get' e2'
          rw [arr_get hi] at hcc
          cases hcc
          have L1 := L.to LV.mo (same_new (o := .tup [V.int (q i : Nat), y1]) nT)
          refine ⟨T, _, rfl, SqT.at_ upd_same, rfl, _, _, rfl, _, _, rfl, rfl, ?_⟩
          obtain ⟨b, bx, bt, hb0, hb1, hb2, hb3⟩ := leg_get hys (Gg.lt i hi)
          have s5 := sd.trans L1.sm
          refine ⟨_, rfl, _, rfl, yp, yv, _, .ref b, rfl, rfl, SqT.at_ (s5 _ _ hyp), atI_nat hb0, b, _, 0, _, rfl, rfl, SqT.at_ (s5 _ _ hb1), at0 _ _, _, rfl, lineN (by simp), fun U nU => ?_⟩
          have sU := same_new (o := .tup [bx, y1]) nU
          refine ⟨_, rfl, _, rfl, (L1.to LV.mo sU).set LV.mo nd0 (i := q i) (x := (fs.getD (q i) z2, (gs ++ ss).getD (if i + 1 < m then t (q (i + 1)) else z) z2)) (by rw [legsOf_len]; exact Gg.lt i hi) ⟨U, bx, y1, rfl, upd_same, hb2.mono ((stk s5).trans (stk sU)), hct.mono ((tk2.trans (stk L1.sm)).trans (stk sU))⟩ fun H6 L6 _ => ?_⟩
          rw [legs_set] at L6
          exact ⟨_, _, rfl, L6⟩
        · rintro _ H5 ⟨v6, v9, rfl, L⟩
          rw [arr_length, tos.1, arr_length, Nat.min_self] at L
          obtain ⟨sL, us, e5, q5⟩ := L
          refine ⟨_, rfl, fa, us, rfl, .inl ⟨SqL.at_ e5, fun l nl => ?_⟩⟩
          obtain ⟨C', P'⟩ := Gg.gain C (t' := tS t q (fun i => if i + 1 < m then t (q (i + 1)) else z) m) (fun i hi => tS_in Gg.inj (Nat.le_refl _) hi) (fun j _ h => tS_out h)
          exact k _ _ _ ((sd.trans sL).trans (same_new nl)) ⟨l, us, rfl, upd_same, q5.mono fun _ _ r => r.mono (tk_new nl)⟩ C' P'
abbrev sGt : Stmt := topS 16
abbrev nGt : List Str := ["froms", "goals", "spare", "legs", "found", "gain"]
theorem scGt : FnScope nGt aGo (defScope sGt) := ⟨rfl, rfl, rfl, by decide +kernel, rfl, by decide +kernel, by decide +kernel⟩
def spGt : Sp := fun vs H Q _ => ∃ (x0 x1 x y : V) (fs gs ss : List Col) (t : Nat → Nat), vs = [x0, x1, x, y] ∧ Cols H x ss ∧ Legs H y (legsOf fs (gs ++ ss) t) ∧ Job fs gs ss ∧ jC fs gs ss t ∧
  ∀ H' v t' u q, Same H H' → Legs H' v (legsOf fs (gs ++ ss) t') → jC fs gs ss t' → jF fs gs ss u q t' → Q v H'
/-- what gain_of gave -/
def GV (fs gs ss : List Col) (t : Nat → Nat) (H : Hp) (v : V) : Prop := (v = .non ∧ ∃ u q, jF fs gs ss u q t) ∨
  ∃ g a m q e z, v = .ref g ∧ H g = some (.tup [.ref a, eo e]) ∧ H a = some (.tup (arr m fun i => V.int (q i : Nat))) ∧ jG fs gs ss t m q z ∧ (e = none → z = t (q 0)) ∧ (∀ k, e = some k → z = gs.length + k) ∧ m ≤ 60
theorem ok_gt (h : Has K mg "gained_often" sGt aGo) (G1 : Kept P w K mg base 3 "gain_of" aGo spGo) (G2 : Kept P w K mg base 1 "gained" ["spare", "legs", "gain"] spGd) : Kept P w K mg base 4 "gained_often" aGo spGt := by
  refine h.kept fun f fd F => F.ok scGt (fun vs H Q E h => ?_) (fun cdv A outer s H vs Q E hr h => ?_)
  · obtain ⟨x0, x1, x, y, fs, gs, ss, t, rfl, _⟩ := h
    rfl
  · obtain ⟨x0, x1, x, y, fs, gs, ss, t, rfl, hx, hy, J, C, k⟩ := h
    refine ⟨_, pss_cons (ps_set (i := 4) scGt.nd rfl (.inl rfl) (pv 3))
      (pss_cons (ps_set (i := 5) scGt.nd rfl (.inl rfl) (pcall G1 hr (by rfl) (pa_cons (pv 0) (pa_cons (pv 1) (pa_cons (pv 2) (pa_cons (pv 4) pa_nil))))))
      (pss_cons (ps_while PassesOwn.never (pt_cmpR op_notN (pv 5) pe_non (nomark _))
        (pss_cons (ps_set (i := 4) scGt.nd rfl (.inl rfl) (pcall G2 (hr.mono (by decide)) (by rfl) (pa_cons (pv 2) (pa_cons (pv 4) (pa_cons (pv 5) pa_nil)))))
        (pss_one (ps_set (i := 5) scGt.nd rfl (.inl rfl) (pcall G1 hr (by rfl) (pa_cons (pv 0) (pa_cons (pv 1) (pa_cons (pv 2) (pa_cons (pv 4) pa_nil)))))))))
      (pss_one (ps_ret (pv 4))))), ?_⟩
    have pn : ∀ t, jC fs gs ss t → 0 ≤ jP fs gs ss t := fun t C => sm_nonneg fun i hi => (sqf_bd J hi (C.lt i hi)).1
    refine ⟨_, rfl, _, rfl, _, rfl, _, rfl, _, rfl, x0, x1, x, y, fs, gs, ss, t, rfl, hx, hy, J, C, ?_⟩
    have main : ∀ gv H1, Same H H1 → GV fs gs ss t H1 gv → tWhile (tTest (tOp (fun x y H Q => y = V.non ∧ Q (V.bl !decide (x = V.non)) H) (tVar 5) (tC V.non)))
        (tSeq (tAsg (tCall spGd [] E0 (tCons (tVar 2) (tCons (tVar 4) (tCons (tVar 5) tNil)))) (gName 4)) (tAsg (tCall spGo [] E0 (tCons (tVar 0) (tCons (tVar 1) (tCons (tVar 2) (tCons (tVar 4) tNil))))) (gName 5)))
        { nx := fun σ H' => tRet (tVar 4) { nx := fun x H' => Q V.non H', rt := Q } σ H', rt := Q } [some x0, some x1, some x, some y, some y, some gv] H1 := by
      intro gv H1 s1 g1
      refine ⟨fun m σ H' => ∃ t y' gv, σ = [some x0, some x1, some x, some y, some y', some gv] ∧ Same H H' ∧ Legs H' y' (legsOf fs (gs ++ ss) t) ∧ jC fs gs ss t ∧ GV fs gs ss t H' gv ∧ m = (jP fs gs ss t).toNat,
        ⟨_, t, y, gv, rfl, s1, hy.mono (stk s1), C, g1, rfl⟩, ?_⟩
      rintro m _ H2 ⟨t, y', gv, rfl, s2, hy', C', g2, rfl⟩
      refine ⟨_, rfl, rfl, _, rfl, ?_⟩
      rcases g2 with ⟨rfl, u, q, Fq⟩ | ⟨g, a, m, q, e, z, rfl, h1, h2, h3, h4, h5, h6⟩
      · refine ifB (fun z => absurd z (by simp)) (fun _ => ?_)
        exact ⟨_, rfl, k _ _ t u q s2 hy' C' Fq⟩
      · refine ifB (fun _ => ?_) (fun z => absurd z (by simp))
        refine ⟨_, fun _ _ h => h, ?_⟩
        refine ⟨_, rfl, _, rfl, _, rfl, x, y', fs, gs, ss, t, g, a, m, q, e, z, rfl, hx.mono (stk s2), hy', J, C', h1, h2, h3, h4, h5, h6, fun H3 y3 t3 s3 hy3 C3 hlt => ?_⟩
        have s23 := s2.trans s3
        have hlt' : (jP fs gs ss t3).toNat < (jP fs gs ss t).toNat := by
          have a := pn t3 C3
          omega
        refine ⟨_, rfl, _, rfl, _, rfl, _, rfl, x0, x1, x, y3, fs, gs, ss, t3, rfl, hx.mono (stk s23), hy3, J, C3, fun H4 u q s4 Fq => ?_, fun H4 p a m q e z s4 q1 q2 q3 q4 q5 q6 => ?_⟩
        · exact ⟨_, hlt', t3, y3, _, rfl, s23.trans s4, hy3.mono (stk s4), C3, .inl ⟨rfl, u, q, Fq⟩, rfl⟩
        · exact ⟨_, hlt', t3, y3, _, rfl, s23.trans s4, hy3.mono (stk s4), C3, .inr ⟨p, a, m, q, e, z, rfl, q1, q2, q3, q4, q5, q6⟩, rfl⟩
    exact ⟨fun H1 u q s1 Fq => main _ H1 s1 (.inl ⟨rfl, u, q, Fq⟩), fun H1 p a m q e z s1 q1 q2 q3 q4 q5 q6 => main _ H1 s1 (.inr ⟨p, a, m, q, e, z, rfl, q1, q2, q3, q4, q5, q6⟩)⟩
end
end Lo

namespace Lo
open PySem PySem.Spec PyProof.Rows L2
section
variable {P : Program} {w : World} {K : PySem.W.Frag} {mg : Str → Option Value} {base : Heap}
/-! ### potentials -/
abbrev sPo : Stmt := topS 18
abbrev nPo : List Str := ["froms", "goals", "spare", "legs", "found", "more", "many", "one"]
theorem scPo : FnScope nPo aGo (defScope sPo) := ⟨rfl, rfl, rfl, by decide +kernel, rfl, by decide +kernel, by decide +kernel⟩
/-- a paper: three tuples -/
def PaV (fs gs ss : List Col) (u v : Nat → Int) (H : Hp) (x : V) : Prop := ∃ p a b c, x = .ref p ∧ H p = some (.tup [.ref a, .ref b, .ref c]) ∧ H a = some (.tup (arr fs.length fun i => V.int (u i))) ∧ H b = some (.tup (arr gs.length fun i => V.int (v i))) ∧ H c = some (.tup (arr ss.length fun i => V.int (v (gs.length + i))))
def spPo : Sp := fun vs H Q _ => ∃ (x y z l : V) (fs gs ss : List Col) (t : Nat → Nat) (u0 v0 : Nat → Int), vs = [x, y, z, l] ∧ Cols H x fs ∧ Cols H y gs ∧ Cols H z ss ∧ Legs H l (legsOf fs (gs ++ ss) t) ∧ Job fs gs ss ∧ jC fs gs ss t ∧ jF fs gs ss u0 v0 t ∧
  ∀ H' r u v, Same H H' → PaV fs gs ss u v H' r → jF fs gs ss u v t → Q r H'
theorem ok_po (h : Has K mg "potentials" sPo aGo) (B : Bl mg) (G1 : Kept P w K mg base 3 "price_of" ["legs"] spPr) (G2 : Kept P w K mg base 5 "least_price" aT spLp) (G3 : Kept P w K mg base 3 "least_found" aT spLf) (G4 : Kept P w K mg base 2 "costs_of" aT spCo) : Kept P w K mg base 6 "potentials" aGo spPo := by
  refine h.kept fun f fd F => F.ok scPo (fun vs H Q E h => ?_) (fun cdv A outer s H vs Q E hr h => ?_)
  · obtain ⟨x, y, z, l, fs, gs, ss, t, u0, v0, rfl, _⟩ := h
    rfl
  · obtain ⟨x, y, z, l, fs, gs, ss, t, u0, v0, rfl, hx, hy, hz, hL, J, C, F0, k⟩ := h
    refine ⟨_, pss_cons (ps_if (pt_cmpR op_ne (pcall G1 (hr.mono (by decide)) (by rfl) (pa_cons (pv 3) pa_nil)) (pcall G2 hr (by rfl) (pa_cons (pv 0) (pa_cons (pv 1) (pa_cons (pv 2) pa_nil)))) (nomark _)) (pss_one (ps_ret pe_non)) pss_nil)
      (pss_cons (ps_set (i := 4) scPo.nd rfl (.inl rfl) (pcall G3 (hr.mono (by decide)) (by rfl) (pa_cons (pv 0) (pa_cons (pv 1) (pa_cons (pv 2) pa_nil)))))
      (pss_cons (ps_set (i := 5) scPo.nd rfl (.inr rfl) (pe_ix (ixT K rfl) (pcall G4 (hr.mono (by decide)) (by rfl) (pa_cons (pv 0) (pa_cons (pv 1) (pa_cons (pv 2) pa_nil)))) pe_int (fun _ _ => rfl)))
      (pss_cons (ps_set (i := 6) scPo.nd rfl (.inl rfl) (pe_callB (lenQ K rfl) (by rfl) B.len (by decide +kernel) (pa_cons (pv 1) pa_nil)))
      (pss_one (ps_ret (pe_tup (pa_cons (pe_callTy call_tuple_of (by rfl) B.tuple (by decide +kernel) (pa_cons (pe_ix (ixT K rfl) (pv 4) pe_int (fun _ _ => rfl)) pa_nil))
        (pa_cons (pe_callTy call_tuple_of (by rfl) B.tuple (by decide +kernel) (pa_cons
          (pe_lc (own := [("one", 7)]) (g := gName 7) (tt := tYes) rfl scPo.nd (pi_list (pe_slice sl_list (pe_ix (ixT K rfl) (pv 4) pe_int (fun _ _ => rfl)) po_none (po_some (pv 6)))) (blkOk_by (N := nPo) (sc := defScope sPo) (by decide +kernel)) (fun _ _ _ _ _ => pg_name (i := 7) scPo.nd rfl (Or.inl rfl)) (fun _ _ _ _ _ => pts_nil)
            (fun _ _ _ _ _ => pe_op op_add (pv 7) (pv 5))) pa_nil))
        (pa_cons (pe_callTy call_tuple_of (by rfl) B.tuple (by decide +kernel) (pa_cons (pe_slice sl_list (pe_ix (ixT K rfl) (pv 4) pe_int (fun _ _ => rfl)) (po_some (pv 6)) po_none) pa_nil)) pa_nil))))))))), ?_⟩
    have hN : (gs ++ ss).length = gs.length + ss.length := List.length_append
    have hnl := J.n
    have hgl := J.g
    have hsl := J.s
    refine ⟨_, rfl, l, _, rfl, hL, by rw [legsOf_len]; omega, legs_bd J C, fun H1 s1 => ?_⟩
    have hx1 := hx.mono (stk s1)
    have hy1 := hy.mono (stk s1)
    have hz1 := hz.mono (stk s1)
    refine ⟨_, rfl, _, rfl, _, rfl, x, y, z, fs, gs, ss, rfl, hx1, hy1, hz1, J, fun H2 f u1 v1 s2 Cf Ff => ?_⟩
    have ep : pri (legsOf fs (gs ++ ss) t) = price fs.length (sqf fs (gs ++ ss)) f := by rw [pri_legs]; exact Ff.same Cf F0 C
    rw [ep]
    refine ⟨rfl, _, rfl, ?_⟩
    refine ifB (fun z => absurd z (by simp)) (fun _ => ?_)
    have s12 := s1.trans s2
    have hx2 := hx.mono (stk s12)
    have hy2 := hy.mono (stk s12)
    have hz2 := hz.mono (stk s12)
    refine ⟨_, rfl, _, rfl, _, rfl, x, y, z, fs, gs, ss, rfl, hx2, hy2, hz2, J, fun H3 p a b c f3 u v s3 e0 e1 e2 e3 Fd => ?_⟩
    obtain ⟨C3, F3⟩ := found_fits J Fd
    have Ft := F3.move C3 C (F3.same C3 F0 C)
    have s13 := s12.trans s3
    refine ⟨_, rfl, _, rfl, _, rfl, x, y, z, fs, gs, ss, rfl, hx.mono (stk s13), hy.mono (stk s13), hz.mono (stk s13), by omega, by omega, by omega, J.bf, J.bt, fun H4 q cm s4 h4 _ => ?_⟩
    refine ⟨q, _, 1, _, rfl, rfl, SqT.at_ h4, at1 _ _ _, ?_⟩
    have s14 := s13.trans s4
    obtain ⟨yp, yv, rfl, hyp, hys⟩ := hy
    refine ⟨_, rfl, yp, yv, rfl, .inr (SqT.at_ (s14 _ _ hyp)), ?_⟩
    rw [hys.1]
    -- the tuples
    refine ⟨_, rfl, p, _, 1, _, rfl, rfl, SqT.at_ (s4 _ _ e0), at1 _ _ _, b, _, rfl, .inl ⟨SqL.at_ (s4 _ _ e2), fun b1 nb1 => ?_⟩⟩
    have t1 := same_new (o := .tup (arr fs.length fun i => V.int (u i))) nb1
    refine ⟨_, rfl, p, _, 2, _, rfl, rfl, SqT.at_ (t1 _ _ (s4 _ _ e0)), at2 _ _ _ _, _, rfl, _, rfl, c, _, rfl, SqL.at_ (t1 _ _ (s4 _ _ e3)), fun b2 nb2 => ?_⟩
    rw [cut_to, arr_take (by omega)]
    have t2 := same_new (o := .lst (arr gs.length fun i => V.int (v i))) nb2
    refine ⟨b2, rfl, ⟨_, SqL.at_ upd_same⟩, fun D nD => ?_⟩
    refine lcT (walk_list (K := K) (a := b2) (xs := arr gs.length fun i => V.int (v i))) (fun i acc _ => acc = arr i fun i => V.int (v i + mor fs (gs ++ ss))) (by rw [arr_length]; omega) nD (fun _ _ _ _ _ v => v) rfl (fun H' s => SqL.at_ (s _ _ upd_same)) ?_ ?_
    · rintro i w1 H5 _ acc hi s5 rfl ⟨rfl, hu⟩ Ky Kn ky kn
      rw [arr_length] at hi
      rw [arr_get hi] at hu
      cases hu
      refine ⟨rfl, ?_⟩
      refine ⟨_, rfl, _, rfl, _, _, rfl, rfl, ky _ _ (.refl _) ?_⟩
      rw [arr_succ]
    · intro H5 acc s5 hD _ v5
      rw [arr_length] at v5
      subst v5
      refine ⟨D, _, rfl, .inl ⟨SqL.at_ hD, fun b3 nb3 => ?_⟩⟩
      have t3 := same_new (o := .tup (arr gs.length fun i => V.int (v i + mor fs (gs ++ ss)))) nb3
      have t15 := (t1.trans t2).trans (s5.trans t3)
      refine ⟨_, rfl, p, _, 2, _, rfl, rfl, SqT.at_ (t15 _ _ (s4 _ _ e0)), at2 _ _ _ _, _, rfl, _, rfl, c, _, rfl, SqL.at_ (t15 _ _ (s4 _ _ e3)), fun b4 nb4 => ?_⟩
      rw [cut_from, arr_drop, show (gs ++ ss).length - gs.length = ss.length by omega]
      have t4 := same_new (o := .lst (arr ss.length fun i => V.int (v (gs.length + i)))) nb4
      refine ⟨b4, _, rfl, .inl ⟨SqL.at_ upd_same, fun b5 nb5 => ?_⟩⟩
      have t5 := same_new (o := .tup (arr ss.length fun i => V.int (v (gs.length + i)))) nb5
      refine ⟨lineN (by simp), fun b6 nb6 => ?_⟩
      have t6 := same_new (o := .tup [V.ref b1, V.ref b3, V.ref b5]) nb6
      refine k _ _ u (papV fs gs ss v) (s14.trans (((t15.trans t4).trans t5).trans t6)) ⟨b6, b1, b3, b5, rfl, upd_same, ?_, ?_, ?_⟩ Ft
      · exact t6 _ _ (t5 _ _ (t4 _ _ (t3 _ _ (s5 _ _ (t2 _ _ upd_same)))))
      · rw [t6 _ _ (t5 _ _ (t4 _ _ upd_same))]
        congr 2
        exact arr_ext fun i hi => by show _ = V.int (if i < gs.length then _ else _); rw [if_pos hi]
      · rw [t6 _ _ upd_same]
        congr 2
        exact arr_ext fun i hi => by show _ = V.int (if gs.length + i < gs.length then _ else _); rw [if_neg (by omega)]
end
end Lo

namespace Lo
open PySem PySem.Spec PyProof.Rows L2
section
variable {P : Program} {w : World} {K : PySem.W.Frag} {mg : Str → Option Value} {base : Heap}
/-! ### _law_bag, _law_take -/
def Bag (ba ca : Addr) (H : Hp) : Prop := ∃ (x y z : Int) (ns : List Int), H ba = some (.lst [.int x, .int y, .int z, .ref ca]) ∧ H ca = some (.lst (ns.map V.int)) ∧ ns.length ≤ 63 ∧ ca ≠ ba
theorem Bag.to {ba ca : Addr} {H H' : Hp} (h : Bag ba ca H) (s : Same H H') : Bag ba ca H' := let ⟨x, y, z, ns, h1, h2, h3, h4⟩ := h; ⟨x, y, z, ns, s _ _ h1, s _ _ h2, h3, h4⟩
theorem Bag.at_ {ba ca fa : Addr} {H : Hp} {o : HO} (h : Bag ba ca H) (e1 : fa ≠ ba) (e2 : fa ≠ ca) : Bag ba ca (upd H fa o) := let ⟨x, y, z, ns, h1, h2, h3, h4⟩ := h; ⟨x, y, z, ns, (upd_ne (Ne.symm e1)).trans h1, (upd_ne (Ne.symm e2)).trans h2, h3, h4⟩
theorem Bag.put {ba : Addr} {H : Hp} {ca : Addr} {ns : List Int} (x y z : Int) (h2 : H ca = some (.lst (ns.map V.int))) (h3 : ns.length ≤ 63) (h4 : ca ≠ ba) : Bag ba ca (upd H ba (.lst [.int x, .int y, .int z, .ref ca])) := ⟨x, y, z, ns, upd_same, (upd_ne h4).trans h2, h3, h4⟩
theorem del_self {H : Hp} {a : Addr} : del H a a = none := if_pos rfl
theorem del_put {H H1 : Hp} {a : Addr} {o : HO} (s : Same (del H a) H1) : Same (del H a) (upd H1 a o) := same_at s del_self
abbrev sBa : Stmt := topS 20
abbrev nBa : List Str := ["_law_script", "_law_cell"]
theorem scBa : FnScope nBa ["_law_script"] (defScope sBa) := ⟨rfl, rfl, rfl, by decide +kernel, rfl, by decide +kernel, by decide +kernel⟩
def spBa (K : PySem.W.Frag) : Sp := fun vs H Q _ => ∃ (a : Addr) (ns : List Int), vs = [.ref a] ∧ SqL K H a (ns.map V.int) ∧ ns.length ≤ 63 ∧ ∀ H' ba ca, Same H H' → H ba = none → H ca = none → Bag ba ca H' → Q (.ref ba) H'
theorem ok_ba (h : Has K mg "_law_bag" sBa ["_law_script"]) (B : Bl mg) : Kept P w K mg base 1 "_law_bag" ["_law_script"] (spBa K) := by
  refine h.kept fun f fd F => F.ok scBa (fun vs H Q E h => ?_) (fun cdv A outer s H vs Q E hr h => ?_)
  · obtain ⟨a, ns, rfl, _⟩ := h
    rfl
  · obtain ⟨a, ns, rfl, ha, hl, k⟩ := h
    refine ⟨_, pss_one (ps_ret (pe_lst (pa_cons pe_int (pa_cons pe_int (pa_cons pe_int (pa_cons
      (pe_lc (own := [("_law_cell", 1)]) (g := gName 1) (tt := tYes) rfl scBa.nd (pi_list (pe_slice sl_list (pv 0) po_none (po_some pe_int))) (blkOk_by (N := nBa) (sc := defScope sBa) (by decide +kernel)) (fun _ _ _ _ _ => pg_name (i := 1) scBa.nd rfl (Or.inl rfl)) (fun _ _ _ _ _ => pts_nil)
        (fun _ _ _ _ _ => pe_callB call_abs (by rfl) B.abs (by decide +kernel) (pa_cons (pv 1) pa_nil))) pa_nil)))))), ?_⟩
    refine ⟨_, rfl, _, rfl, a, _, rfl, ha, fun b1 nb1 => ?_⟩
    rw [show (some (63 : Int)) = some ((63 : Nat) : Int) from rfl, cut_to, ← List.map_take]
    have s1 := same_new (o := .lst ((ns.take 63).map V.int)) nb1
    refine ⟨b1, rfl, ⟨_, SqL.at_ upd_same⟩, fun D nD => ?_⟩
    have tl : (ns.take 63).length ≤ 63 := by rw [List.length_take]; omega
    refine lcT (walk_list (K := K) (a := b1) (xs := (ns.take 63).map V.int)) (fun i acc _ => ∃ ms : List Int, acc = ms.map V.int) (by rw [List.length_map]; omega) nD (fun _ _ _ _ _ v => v) ⟨[], rfl⟩ (fun H' s => SqL.at_ (s _ _ upd_same)) ?_ ?_
    · rintro i u H2 _ acc hi s2 ⟨ms, rfl⟩ ⟨rfl, hu⟩ Ky Kn ky kn
      obtain ⟨j, hj, e⟩ := List.getElem?_map .. ▸ hu |> Option.map_eq_some_iff.mp
      subst e
      refine ⟨rfl, ?_⟩
      exact ⟨_, rfl, j, rfl, ky _ _ (.refl _) ⟨ms ++ [_], by rw [List.map_append]; rfl⟩⟩
    · rintro H2 _ s2 hD hlen ⟨ms, rfl⟩
      rw [List.length_map, List.length_map] at hlen
      refine ⟨lineN (by simp), fun ba nba => ?_⟩
      have s3 := same_new (o := .lst [V.int 0, V.int 1234567891, V.int 0, V.ref D]) nba
      exact k _ ba D ((s1.trans s2).trans s3) (same_none (s1.trans s2) nba) (same_none s1 nD) ⟨_, _, _, ms, upd_same, s3 _ _ hD, by omega, ne_new hD nba⟩
abbrev sTa : Stmt := topS 21
abbrev nTa : List Str := ["_law_bag_here", "_law_many", "_law_cell", "_law_stirred", "_law_value", "_law_begin", "_law_second"]
theorem scTa : FnScope nTa ["_law_bag_here", "_law_many"] (defScope sTa) := ⟨rfl, rfl, rfl, by decide +kernel, rfl, by decide +kernel, by decide +kernel⟩
def spTa : Sp := fun vs H Q _ => ∃ (ba ca : Addr) (m : Nat), vs = [.ref ba, .int (m : Nat)] ∧ Bag ba ca H ∧ 0 < m ∧ m ≤ 10000 ∧ ∀ H' r, Same (del H ba) H' → Bag ba ca H' → r < m → Q (.int (r : Nat)) H'
theorem ok_ta (h : Has K mg "_law_take" sTa ["_law_bag_here", "_law_many"]) (B : Bl mg) : Kept P w K mg base 1 "_law_take" ["_law_bag_here", "_law_many"] spTa := by
  refine h.kept fun f fd F => F.ok scTa (fun vs H Q E h => ?_) (fun cdv A outer s H vs Q E hr h => ?_)
  · obtain ⟨ba, ca, m, rfl, _⟩ := h
    rfl
  · obtain ⟨ba, ca, m, rfl, hb, m0, m1, k⟩ := h
    refine ⟨_, pss_cons (ps_if (pt_cmpR op_eq (pe_ix (ixL K rfl) (pv 0) pe_int (fun _ _ => rfl)) pe_int (nomark _))
        (pss_cons (ps_set (i := 2) scTa.nd rfl (.inl rfl) (pe_ix (ixL K rfl) (pe_op op_cat (pe_slice sl_list (pe_ix (ixL K rfl) (pv 0) pe_int (fun _ _ => rfl)) (po_some (pe_ix (ixL K rfl) (pv 0) pe_int (fun _ _ => rfl))) po_none) (pe_lst (pa_cons pe_int pa_nil))) pe_int (fun _ _ => rfl)))
        (pss_cons (ps_augS (pv 0) pe_int get_list pe_int ip_add set_list)
        (pss_cons (ps_if (pt_cmpR op_ge (pv 2) (pe_op op_pow pe_int pe_int) (nomark _)) (pss_one (ps_asg (pv 2) (pg_sub (pv 0) pe_int set_list))) pss_nil)
        (pss_cons (ps_set (i := 3) scTa.nd rfl (.inl rfl) (pe_op op_add (pe_op op_add (pe_op op_mul (pe_ix (ixL K rfl) (pv 0) pe_int (fun _ _ => rfl)) pe_int) (pe_op op_mod (pe_callTy call_int1 (by rfl) B.int (by decide +kernel) (pa_cons (pv 2) pa_nil)) pe_int)) (pe_op op_mul pe_int (pe_ix (ixL K rfl) (pv 0) pe_int (fun _ _ => rfl)))))
        (pss_one (ps_asg (pe_op op_mod (pe_callTy call_int1 (by rfl) B.int (by decide +kernel) (pa_cons (pv 3) pa_nil)) pe_int) (pg_sub (pv 0) pe_int set_list))))))) pss_nil)
      (pss_cons (ps_if (pt_cmpR op_gt (pe_ix (ixL K rfl) (pv 0) pe_int (fun _ _ => rfl)) pe_int (nomark _))
        (pss_cons (ps_set (i := 4) scTa.nd rfl (.inl rfl) (pe_op op_mod (pe_callTy call_int1 (by rfl) B.int (by decide +kernel) (pa_cons (pe_ix (ixL K rfl) (pv 0) pe_int (fun _ _ => rfl)) pa_nil)) (pv 1)))
        (pss_cons (ps_asg (pe_op op_fdivN (pe_callTy call_int1 (by rfl) B.int (by decide +kernel) (pa_cons (pe_ix (ixL K rfl) (pv 0) pe_int (fun _ _ => rfl)) pa_nil)) (pv 1)) (pg_sub (pv 0) pe_int set_list))
        (pss_one (ps_ret (pv 4))))) pss_nil)
      (pss_cons (ps_set (i := 5) scTa.nd rfl (.inl rfl) (pe_op op_mod (pe_callTy call_int1 (by rfl) B.int (by decide +kernel) (pa_cons (pe_op op_mul (pe_op op_add (pe_ix (ixL K rfl) (pv 0) pe_int (fun _ _ => rfl)) pe_int) pe_int) pa_nil)) pe_int))
      (pss_cons (ps_set (i := 6) scTa.nd rfl (.inl rfl) (pe_op op_mod (pe_callTy call_int1 (by rfl) B.int (by decide +kernel) (pa_cons (pe_op op_mul (pe_op op_mod (pe_callTy call_int1 (by rfl) B.int (by decide +kernel) (pa_cons (pe_op op_mul (pv 5) (pv 5)) pa_nil)) pe_int) pe_int) pa_nil)) pe_int))
      (pss_one (ps_ret (pe_op op_mod (pe_callTy call_int1 (by rfl) B.int (by decide +kernel) (pa_cons (pe_op op_fdivN (pv 6) pe_int) pa_nil)) (pv 1))))))), ?_⟩
    have rm : ∀ x : Int, ∃ r : Nat, x % (m : Int) = (r : Int) ∧ r < m := fun x => by
      have a := Int.emod_nonneg x (show (m : Int) ≠ 0 by omega)
      have b := Int.emod_lt_of_pos x (show 0 < (m : Int) by omega)
      exact ⟨(x % (m : Int)).toNat, by omega, by omega⟩
    obtain ⟨x, y, z, ns, h1, h2, h3, h4⟩ := hb
    refine ⟨_, rfl, ba, _, 0, _, rfl, rfl, SqL.at_ h1, at0 _ _, rfl, _, rfl, ?_⟩
    refine ifN (fun σ H' => ∃ v2 v3, σ = [some (.ref ba), some (.int (m : Nat)), v2, v3, none, none, none] ∧ Same (del H ba) H' ∧ Bag ba ca H') (fun _ D' kD => ?_) (fun _ D' kD => kD _ _ ⟨_, _, rfl, del_to, x, y, z, ns, h1, h2, h3, h4⟩) ?_
    · refine ⟨_, rfl, ba, _, 3, _, rfl, rfl, SqL.at_ h1, at3 _ _ _ _ _, _, rfl, ba, _, 2, _, rfl, rfl, SqL.at_ h1, at2 _ _ _ _, _, rfl, ca, _, rfl, SqL.at_ h2, fun b1 nb1 => ?_⟩
      obtain ⟨ms, ems, lms⟩ := cut_ints ns (some z) none
      rw [ems]
      have s1 := same_new (o := .lst (ms.map V.int)) nb1
      refine ⟨lineN (by simp), fun b2 nb2 => ?_⟩
      have s2 := same_new (o := .lst [V.int 0]) nb2
      refine ⟨b1, b2, _, _, rfl, rfl, s2 _ _ upd_same, upd_same, lineN (by rw [List.length_map]; simp; omega), fun b3 nb3 => ?_⟩
      have s3 := (s1.trans s2).trans (same_new (o := .lst (ms.map V.int ++ [V.int 0])) nb3)
      obtain ⟨cell, hcell⟩ : ∃ cell, atI (ms.map V.int ++ [V.int 0]) 0 = some (.int cell) := by
        cases ms with
        | nil => exact ⟨0, at0 _ _⟩
        | cons a r => exact ⟨a, at0 _ _⟩
      refine ⟨b3, _, 0, _, rfl, rfl, SqL.at_ upd_same, hcell, ?_⟩
      refine ⟨_, rfl, ba, _, 2, _, rfl, rfl, SqL.at_ (s3 _ _ h1), at2 _ _ _ _, _, _, rfl, rfl, ba, _, 2, 2, rfl, rfl, s3 _ _ h1, rfl, ?_⟩
      refine ⟨_, rfl, _, _, rfl, rfl, ⟨by decide, by decide, by decide⟩, _, _, rfl, rfl, _, rfl, ?_⟩
      refine ifN (fun σ H' => σ = [some (.ref ba), some (.int (m : Nat)), some (.int cell), none, none, none, none] ∧ Same (del H ba) H' ∧ ∃ x', H' ba = some (.lst [.int x', .int y, .int (z + 1), .ref ca])) (fun _ D2 k2 => ?_) (fun _ D2 k2 => k2 _ _ ⟨rfl, del_put (del_to.trans s3), x, upd_same⟩) ?_
      · exact ⟨_, rfl, _, rfl, ba, _, 0, 0, rfl, rfl, upd_same, rfl, k2 _ _ ⟨rfl, del_put (del_put (del_to.trans s3)), cell, upd_same⟩⟩
      · rintro _ H4 ⟨rfl, s4, x', e⟩
        have e2 : H4 ca = some (.lst (ns.map V.int)) := s4 _ _ (by rw [del_ne h4]; exact h2)
        refine ⟨_, rfl, ba, _, 1, _, rfl, rfl, SqL.at_ e, at1 _ _ _, _, _, rfl, rfl, .inr ⟨by decide, by decide⟩, _, rfl, .inl ⟨_, rfl, _, _, rfl, rfl, (show (0 : Int) < 2147483647 by decide), _, _, rfl, rfl, _, rfl, ba, _, 2, _, rfl, rfl, SqL.at_ e, at2 _ _ _ _, _, _, rfl, rfl, .inl ⟨by decide, by decide⟩, _, _, rfl, rfl, ?_⟩⟩
        exact ⟨_, rfl, .inl ⟨_, rfl, _, _, rfl, rfl, (show (0 : Int) < 2147483647 by decide), _, rfl, ba, _, 1, 1, rfl, rfl, e, rfl, kD _ _ ⟨_, _, rfl, del_put s4, Bag.put _ _ _ e2 h3 h4⟩⟩⟩
    · rintro _ H1 ⟨v2, v3, rfl, s1, x, y, z, ns, h1, h2, h3, h4⟩
      refine ⟨_, rfl, ba, _, 0, _, rfl, rfl, SqL.at_ h1, at0 _ _, _, _, rfl, rfl, _, rfl, ?_⟩
      refine ifB (fun _ => ?_) (fun _ => ?_)
      · refine ⟨_, rfl, ba, _, 0, _, rfl, rfl, SqL.at_ h1, at0 _ _, .inl ⟨_, rfl, _, rfl, _, _, rfl, rfl, by omega, ?_⟩⟩
        refine ⟨_, rfl, ba, _, 0, _, rfl, rfl, SqL.at_ h1, at0 _ _, .inl ⟨_, rfl, _, rfl, _, _, rfl, rfl, ⟨by omega, by omega⟩, _, rfl, ba, _, 0, 0, rfl, rfl, h1, rfl, ?_⟩⟩
        refine ⟨_, rfl, ?_⟩
        obtain ⟨r, er, hr'⟩ := rm x
        show Q (.int (x % (m : Int))) _
        rw [er]
        exact k _ r (del_put s1) (Bag.put _ _ _ h2 h3 h4) hr'
      · refine ⟨_, rfl, ba, _, 1, _, rfl, rfl, SqL.at_ h1, at1 _ _ _, _, _, rfl, rfl, _, _, rfl, rfl, .inr ⟨by decide, by decide⟩, .inl ⟨_, rfl, _, _, rfl, rfl, (show (0 : Int) < 1000000007 by decide), ?_⟩⟩
        have b1 := Int.emod_nonneg ((y + 1) * 39373) (show (1000000007 : Int) ≠ 0 by decide)
        have b2 := Int.emod_lt_of_pos ((y + 1) * 39373) (show 0 < (1000000007 : Int) by decide)
        refine ⟨_, rfl, _, rfl, _, _, rfl, rfl, .inl ⟨by omega, by omega⟩, .inl ⟨_, rfl, _, _, rfl, rfl, (show (0 : Int) < 998244353 by decide), _, _, rfl, rfl, .inr ⟨by decide, by decide⟩, .inl ⟨_, rfl, _, _, rfl, rfl, (show (0 : Int) < 998244353 by decide), ?_⟩⟩⟩
        refine ⟨_, rfl, _, _, rfl, rfl, ⟨by decide, by decide⟩, .inl ⟨_, rfl, _, rfl, _, _, rfl, rfl, by omega, ?_⟩⟩
        obtain ⟨r, er, hr'⟩ := rm (((((y + 1) * 39373 % 1000000007) * ((y + 1) * 39373 % 1000000007)) % 998244353 * 30011 % 998244353).fdiv 7)
        show Q (.int (((((y + 1) * 39373 % 1000000007) * ((y + 1) * 39373 % 1000000007)) % 998244353 * 30011 % 998244353).fdiv 7 % (m : Int))) _
        rw [er]
        exact k _ r s1 ⟨x, y, z, ns, h1, h2, h3, h4⟩ hr'
end
end Lo

namespace Lo
open PySem PySem.Spec PyProof.Rows L2
section
variable {P : Program} {w : World} {K : PySem.W.Frag} {mg : Str → Option Value} {base : Heap}
/-! ### _law_mixed -/
theorem tk_del {H : Hp} {a : Addr} {xs : List V} (h : H a = some (.lst xs)) : Tk H (del H a) := fun b ys e => by
  rw [del_ne (ne_of e h (by intro z; cases z))]; exact e
theorem Bag.tk {ba ca : Addr} {H H' : Hp} (h : Bag ba ca H) (s : Same (del H ba) H') : Tk H H' := let ⟨x, y, z, ns, h1, _⟩ := h; (tk_del h1).trans (stk s)
abbrev sMi : Stmt := topS 22
abbrev nMi : List Str := ["_law_bag_here", "_law_things", "_law_found", "_law_thing"]
theorem scMi : FnScope nMi ["_law_bag_here", "_law_things"] (defScope sMi) := ⟨rfl, rfl, rfl, by decide +kernel, rfl, by decide +kernel, by decide +kernel⟩
def spMi : Sp := fun vs H Q _ => ∃ (ba ca la : Addr) (us : List V) (xs : List Col), vs = [.ref ba, .ref la] ∧ Bag ba ca H ∧ H la = some (.lst us) ∧ la ≠ ba ∧ Seq (CV H) us xs ∧ xs.length ≤ 1000 ∧
  ∀ H' fa vs ys, Same (del H ba) H' → Bag ba ca H' → H' fa = some (.lst vs) → Seq (CV H') vs ys → ys.Perm xs → fa ≠ ba → fa ≠ ca → Q (.ref fa) H'
theorem ok_mi (h : Has K mg "_law_mixed" sMi ["_law_bag_here", "_law_things"]) (B : Bl mg) (G : Kept P w K mg base 1 "_law_take" ["_law_bag_here", "_law_many"] spTa) : Kept P w K mg base 2 "_law_mixed" ["_law_bag_here", "_law_things"] spMi := by
  refine h.kept fun f fd F => F.ok scMi (fun vs H Q E h => ?_) (fun cdv A outer s H vs Q E hr h => ?_)
  · obtain ⟨ba, ca, la, us, xs, rfl, _⟩ := h
    rfl
  · obtain ⟨ba, ca, la, us, xs, rfl, hb, hla, hne, hus, hxl, k⟩ := h
    refine ⟨_, pss_cons (ps_set (i := 2) scMi.nd rfl (.inl rfl) (pe_lst pa_nil))
      (pss_cons (ps_for PassesOwn.never rfl (pi_list (pv 1)) (pg_name (i := 3) scMi.nd rfl (.inl rfl))
        (pss_one (ps_expr (pe_bm PySem.F.plainAttrs_list PySem.F.slot_list_insert PySem.F.type_list_insert mt_ins (pv 2)
          (pa_cons (pcall G hr (by rfl) (pa_cons (pv 0) (pa_cons (pe_op op_add (pe_callB (lenQ K rfl) (by rfl) B.len (by decide +kernel) (pa_cons (pv 2) pa_nil)) pe_int) pa_nil))) (pa_cons (pv 3) pa_nil))))))
      (pss_one (ps_ret (pv 2)))), ?_⟩
    refine ⟨lineN (by simp), fun fa nfa => ?_⟩
    have s1 := same_new (o := .lst []) nfa
    have hfb : fa ≠ ba := by obtain ⟨x, y, z, ns, h1, _⟩ := hb; exact (ne_new h1 nfa).symm
    have hfc : fa ≠ ca := by obtain ⟨x, y, z, ns, _, h2, _⟩ := hb; exact (ne_new h2 nfa).symm
    have hfl : fa ≠ la := (ne_new hla nfa).symm
    have hld : del H ba la = some (.lst us) := by rw [del_ne hne]; exact hla
    have hdf : del H ba fa = none := by rw [del_ne hfb]; exact nfa
    refine ⟨_, rfl, la, rfl, ⟨_, SqL.at_ (s1 _ _ hla)⟩, ?_⟩
    refine for_it (walk_list (K := K) (a := la) (xs := us)) (fun i σ H' => ∃ v3, σ = [some (.ref ba), some (.ref la), some (.ref fa), v3] ∧ Same (del H ba) H' ∧ Tk H H' ∧ Bag ba ca H' ∧ ∃ vs ys, H' fa = some (.lst vs) ∧ Seq (CV H') vs ys ∧ ys.Perm (xs.take i))
      ⟨none, rfl, del_to.trans s1, stk s1, hb.to s1, [], [], upd_same, Seq.nil, .nil⟩ (fun i σ H' _ ⟨_, _, s, _⟩ => SqL.at_ (s _ _ hld)) ?_ ?_
    · rintro i _ _ H1 _ hi ⟨v3, rfl, s2, tk, hb1, vs, ys, e1, q1, p1⟩ ⟨rfl, hu⟩
      obtain ⟨c, hc, hcv⟩ := hus.get' hu
      have hyl : ys.length ≤ 1000 := by rw [p1.length_eq, List.length_take]; omega
      refine ⟨_, rfl, .inl ⟨rfl, _, SqL.at_ e1⟩, _, rfl, _, rfl, fa, vs, rfl, .inl (SqL.at_ e1), _, _, rfl, rfl, ba, ca, vs.length + 1, ?_, hb1, by omega, by rw [q1.1]; omega, fun H2 r s3 hb2 hr2 => ?_⟩
      · rw [Int.natCast_add]; rfl
      have e2 : H2 fa = some (.lst vs) := s3 _ _ (by rw [del_ne hfb]; exact e1)
      have tk2 := hb1.tk s3
      have q2 : Seq (CV H2) vs ys := q1.mono fun _ _ r => r.mono tk2
      have s4 : Same (del H ba) H2 := (same_del s2 del_self).trans s3
      refine ⟨_, rfl, ins_at (R := CV) (H0 := del H ba) (fun k _ _ h => h.mono k) ⟨s4, vs, e2, q2⟩ hdf (by omega) (by rw [q1.1] at hr2; omega) (hcv.mono (tk.trans tk2)) fun H3 L3 tk3 => ?_⟩
      obtain ⟨s5, vs', e3, q3⟩ := L3
      refine ⟨_, rfl, s5, (tk.trans tk2).trans tk3, hb2.at_ hfb hfc, vs', _, e3, q3, ?_⟩
      have hr3 : r ≤ ys.length := by rw [q1.1] at hr2; omega
      have e : xs.take (i + 1) = xs.take i ++ [c] := by rw [List.take_add_one, hc]; rfl
      rw [e]
      have a : (ys.take r ++ [c] ++ ys.drop r).Perm (ys ++ [c]) := by
        rw [List.append_assoc]
        have b : (ys.take r ++ ([c] ++ ys.drop r)).Perm (ys.take r ++ (ys.drop r ++ [c])) := List.Perm.append_left _ List.perm_append_comm
        rw [← List.append_assoc (ys.take r) (ys.drop r) [c], List.take_append_drop] at b
        exact b
      exact a.trans (p1.append_right _)
    · rintro _ H1 ⟨v3, rfl, s2, tk, hb1, vs, ys, e1, q1, p1⟩
      rw [hus.1, List.take_length] at p1
      exact ⟨_, rfl, k _ fa vs ys s2 hb1 e1 q1 p1 hfb hfc⟩
end
end Lo

namespace Lo
open PySem PySem.Spec PyProof.Rows L2
section
variable {P : Program} {w : World} {K : PySem.W.Frag} {mg : Str → Option Value} {base : Heap}
/-! ### the law's small defs -/
abbrev sLq : Stmt := topS 23
abbrev nLq : List Str := ["_law_one", "_law_other"]
theorem scLq : FnScope nLq nLq (defScope sLq) := ⟨rfl, rfl, rfl, by decide +kernel, rfl, by decide +kernel, by decide +kernel⟩
theorem sqd_sym (a b : Col) : (a.1 - b.1) * (a.1 - b.1) + (a.2 - b.2) * (a.2 - b.2) = sqd a b := by
  unfold sqd
  rw [show a.1 - b.1 = -(b.1 - a.1) by omega, show a.2 - b.2 = -(b.2 - a.2) by omega, Int.neg_mul_neg, Int.neg_mul_neg]
theorem ok_lq (h : Has K mg "_law_squared" sLq nLq) : Kept P w K mg base 1 "_law_squared" nLq spSq := by
  refine h.kept fun f fd F => F.ok scLq (fun vs H Q E h => ?_) (fun cdv A outer s H vs Q E hr h => ?_)
  · obtain ⟨x, y, a, b, rfl, _⟩ := h
    rfl
  · obtain ⟨x, y, a, b, rfl, ⟨p, rfl, hp⟩, ⟨q, rfl, hq⟩, ⟨⟨a1, a2⟩, a3, a4⟩, ⟨⟨b1, b2⟩, b3, b4⟩, k⟩ := h
    refine ⟨_, pss_one (ps_ret (pe_op op_add
      (pe_op op_mul (pe_op op_sub (pe_ix ix_tup (pv 0) pe_int (fun _ _ => rfl)) (pe_ix ix_tup (pv 1) pe_int (fun _ _ => rfl))) (pe_op op_sub (pe_ix ix_tup (pv 0) pe_int (fun _ _ => rfl)) (pe_ix ix_tup (pv 1) pe_int (fun _ _ => rfl))))
      (pe_op op_mul (pe_op op_sub (pe_ix ix_tup (pv 0) pe_int (fun _ _ => rfl)) (pe_ix ix_tup (pv 1) pe_int (fun _ _ => rfl))) (pe_op op_sub (pe_ix ix_tup (pv 0) pe_int (fun _ _ => rfl)) (pe_ix ix_tup (pv 1) pe_int (fun _ _ => rfl)))))), ?_⟩
    have P := SqT.at_ (K := K) hp
    have R := SqT.at_ (K := K) hq
    refine ⟨_, rfl, p, _, 0, _, rfl, rfl, P, at0 _ _, _, rfl, q, _, 0, _, rfl, rfl, R, at0 _ _, _, _, rfl, rfl, ?_⟩
    refine ⟨_, rfl, p, _, 0, _, rfl, rfl, P, at0 _ _, _, rfl, q, _, 0, _, rfl, rfl, R, at0 _ _, _, _, rfl, rfl, _, _, rfl, rfl, .inl ⟨by omega, by omega⟩, ?_⟩
    refine ⟨_, rfl, p, _, 1, _, rfl, rfl, P, at1 _ _ _, _, rfl, q, _, 1, _, rfl, rfl, R, at1 _ _ _, _, _, rfl, rfl, ?_⟩
    refine ⟨_, rfl, p, _, 1, _, rfl, rfl, P, at1 _ _ _, _, rfl, q, _, 1, _, rfl, rfl, R, at1 _ _ _, _, _, rfl, rfl, _, _, rfl, rfl, .inl ⟨by omega, by omega⟩, ?_⟩
    refine ⟨_, _, rfl, rfl, ?_⟩
    show Q (.int ((a.1 - b.1) * (a.1 - b.1) + (a.2 - b.2) * (a.2 - b.2))) H
    rw [sqd_sym]; exact k
abbrev sDc : Stmt := topS 24
abbrev nDc : List Str := ["_law_leg", "_law_other", "_law_a", "_law_b", "_law_c", "_law_d"]
theorem scDc : FnScope nDc ["_law_leg", "_law_other"] (defScope sDc) := ⟨rfl, rfl, rfl, by decide +kernel, rfl, by decide +kernel, by decide +kernel⟩
def dotL (l m : Col × Col) : Int := (m.1.1 - l.1.1) * (m.2.1 - l.2.1) + (m.1.2 - l.1.2) * (m.2.2 - l.2.2)
def spDc : Sp := fun vs H Q _ => ∃ (x y : V) (l m : Col × Col), vs = [x, y] ∧ LV H x l ∧ LV H y m ∧ (Bc l.1 ∧ Bc l.2) ∧ (Bc m.1 ∧ Bc m.2) ∧ ∀ H', Same H H' → Q (.bl (decide (dotL l m < 0))) H'
theorem ok_dc (h : Has K mg "_law_do_cross" sDc ["_law_leg", "_law_other"]) : Kept P w K mg base 1 "_law_do_cross" ["_law_leg", "_law_other"] spDc := by
  refine h.kept fun f fd F => F.ok scDc (fun vs H Q E h => ?_) (fun cdv A outer s H vs Q E hr h => ?_)
  · obtain ⟨x, y, l, m, rfl, _⟩ := h
    rfl
  · obtain ⟨x, y, l, m, rfl, ⟨p, pa, pb, rfl, hp, ⟨aa, rfl, ha⟩, ⟨ab, rfl, hb⟩⟩, ⟨q, qa, qb, rfl, hq, ⟨ac, rfl, hc⟩, ⟨ad, rfl, hd⟩⟩, ⟨⟨⟨a1, a2⟩, a3, a4⟩, ⟨⟨b1, b2⟩, b3, b4⟩⟩, ⟨⟨⟨c1, c2⟩, c3, c4⟩, ⟨⟨d1, d2⟩, d3, d4⟩⟩, k⟩ := h
    refine ⟨_, pss_cons (ps_asg (pe_tup (pa_cons (pv 0) (pa_cons (pv 1) pa_nil))) (pg_tup rfl (pgs_cons (pg_tup rfl (pgs_cons (pg_name (i := 2) scDc.nd rfl (.inl rfl)) (pgs_cons (pg_name (i := 3) scDc.nd rfl (.inl rfl)) pgs_nil))) (pgs_cons (pg_tup rfl (pgs_cons (pg_name (i := 4) scDc.nd rfl (.inl rfl)) (pgs_cons (pg_name (i := 5) scDc.nd rfl (.inl rfl)) pgs_nil))) pgs_nil))))
      (pss_one (ps_ret (pe_cmpR op_lt (pe_op op_add
        (pe_op op_mul (pe_op op_sub (pe_ix ix_tup (pv 4) pe_int (fun _ _ => rfl)) (pe_ix ix_tup (pv 2) pe_int (fun _ _ => rfl))) (pe_op op_sub (pe_ix ix_tup (pv 5) pe_int (fun _ _ => rfl)) (pe_ix ix_tup (pv 3) pe_int (fun _ _ => rfl))))
        (pe_op op_mul (pe_op op_sub (pe_ix ix_tup (pv 4) pe_int (fun _ _ => rfl)) (pe_ix ix_tup (pv 2) pe_int (fun _ _ => rfl))) (pe_op op_sub (pe_ix ix_tup (pv 5) pe_int (fun _ _ => rfl)) (pe_ix ix_tup (pv 3) pe_int (fun _ _ => rfl))))) pe_int (nomark _)))), ?_⟩
    refine ⟨_, rfl, _, rfl, lineN (by simp), fun T nT => ?_⟩
    have s := same_new (o := .tup [V.ref p, V.ref q]) nT
    refine ⟨T, _, rfl, SqT.at_ upd_same, rfl, _, _, rfl, p, _, rfl, SqT.at_ (s _ _ hp), rfl, _, _, rfl, _, _, rfl, rfl, _, _, rfl, q, _, rfl, SqT.at_ (s _ _ hq), rfl, _, _, rfl, _, _, rfl, rfl, rfl, ?_⟩
    have PA := SqT.at_ (K := K) (s _ _ ha)
    have PB := SqT.at_ (K := K) (s _ _ hb)
    have PC := SqT.at_ (K := K) (s _ _ hc)
    have PD := SqT.at_ (K := K) (s _ _ hd)
    refine ⟨_, rfl, ac, _, 0, _, rfl, rfl, PC, at0 _ _, _, rfl, aa, _, 0, _, rfl, rfl, PA, at0 _ _, _, _, rfl, rfl, ?_⟩
    refine ⟨_, rfl, ad, _, 0, _, rfl, rfl, PD, at0 _ _, _, rfl, ab, _, 0, _, rfl, rfl, PB, at0 _ _, _, _, rfl, rfl, _, _, rfl, rfl, .inl ⟨by omega, by omega⟩, ?_⟩
    refine ⟨_, rfl, ac, _, 1, _, rfl, rfl, PC, at1 _ _ _, _, rfl, aa, _, 1, _, rfl, rfl, PA, at1 _ _ _, _, _, rfl, rfl, ?_⟩
    refine ⟨_, rfl, ad, _, 1, _, rfl, rfl, PD, at1 _ _ _, _, rfl, ab, _, 1, _, rfl, rfl, PB, at1 _ _ _, _, _, rfl, rfl, _, _, rfl, rfl, .inl ⟨by omega, by omega⟩, ?_⟩
    exact ⟨_, _, rfl, rfl, _, _, rfl, rfl, k _ s⟩
abbrev sFc : Stmt := topS 25
abbrev nFc : List Str := ["_law_legs", "_law_i", "_law_j"]
theorem scFc : FnScope nFc ["_law_legs"] (defScope sFc) := ⟨rfl, rfl, rfl, by decide +kernel, rfl, by decide +kernel, by decide +kernel⟩
theorem ixQ (K : PySem.W.Frag) {X : Cx} (h : X.K = K) : IxR X (rIx K) := by subst h; exact ix_seq
theorem ixS {K : PySem.W.Frag} {b : Bool} {H : Hp} {p : Addr} {i : Nat} {xs : List V} {v : V} {Q : VK} (h : SqB b K H p xs) (hi : xs[i]? = some v) (q : Q v H) : rIx K (.ref p) (.int (i : Nat)) H Q := by
  cases b with
  | false => exact .inl ⟨p, _, _, _, rfl, rfl, h, atI_nat hi, q⟩
  | true => exact .inr (.inl ⟨p, _, _, _, rfl, rfl, h, atI_nat hi, q⟩)
theorem lenS {K : PySem.W.Frag} {b : Bool} {H : Hp} {p : Addr} {xs : List V} (h : SqB b K H p xs) : SqL K H p xs ∨ SqT K H p xs := by
  cases b with
  | false => exact .inl h
  | true => exact .inr h
theorem SqB.to {K : PySem.W.Frag} {b : Bool} {H H' : Hp} {p : Addr} {xs : List V} (h : H p = some (if b = true then .tup xs else .lst xs)) (s : Same H H') : SqB b K H' p xs := by
  cases b with
  | false => exact SqL.at_ (s _ _ h)
  | true => exact SqT.at_ (s _ _ h)
abbrev lg (ls : List (Col × Col)) (i : Nat) : Col × Col := ls.getD i (z2, z2)
def spFc : Sp := fun vs H Q _ => ∃ (b : Bool) (a : Addr) (us : List V) (ls : List (Col × Col)), vs = [.ref a] ∧ H a = some (if b = true then .tup us else .lst us) ∧ Seq (LV H) us ls ∧ ls.length ≤ 100 ∧ (∀ l ∈ ls, Bc l.1 ∧ Bc l.2) ∧
  (∀ H', Same H H' → (∀ i j, i < j → j < ls.length → 0 ≤ dotL (lg ls i) (lg ls j)) → Q .non H') ∧
  ∀ H' p i j, Same H H' → i < j → j < ls.length → dotL (lg ls i) (lg ls j) < 0 → H' p = some (.tup [.int (i : Nat), .int (j : Nat)]) → Q (.ref p) H'
theorem ok_fc (h : Has K mg "_law_first_crossing" sFc ["_law_legs"]) (B : Bl mg) (G : Kept P w K mg base 1 "_law_do_cross" ["_law_leg", "_law_other"] spDc) : Kept P w K mg base 2 "_law_first_crossing" ["_law_legs"] spFc := by
  refine h.kept fun f fd F => F.ok scFc (fun vs H Q E h => ?_) (fun cdv A outer s H vs Q E hr h => ?_)
  · obtain ⟨b, a, us, ls, rfl, _⟩ := h
    rfl
  · obtain ⟨b, a, us, ls, rfl, ha, hus, hl, hb, k0, k1⟩ := h
    refine ⟨_, pss_cons (ps_for PassesOwn.never rfl (pi_range1 (by rfl) B.range (pa_cons (pe_callB (lenQ K rfl) (by rfl) B.len (by decide +kernel) (pa_cons (pv 0) pa_nil)) pa_nil)) (pg_name (i := 1) scFc.nd rfl (.inl rfl))
        (pss_one (ps_for PassesOwn.never rfl (pi_range2 (by rfl) B.range (pa_cons (pe_op op_add (pv 1) pe_int) (pa_cons (pe_callB (lenQ K rfl) (by rfl) B.len (by decide +kernel) (pa_cons (pv 0) pa_nil)) pa_nil))) (pg_name (i := 2) scFc.nd rfl (.inl rfl))
          (pss_one (ps_if (pt_val (pcall G hr (by rfl) (pa_cons (pe_ix (ixQ K rfl) (pv 0) (pv 1) (fun _ _ => rfl)) (pa_cons (pe_ix (ixQ K rfl) (pv 0) (pv 2) (fun _ _ => rfl)) pa_nil))))
            (pss_one (ps_ret (pe_tup (pa_cons (pv 1) (pa_cons (pv 2) pa_nil))))) pss_nil)))))
      (pss_one (ps_ret pe_non)), ?_⟩
    refine ⟨_, rfl, a, us, rfl, lenS (SqB.to ha (.refl _)), _, rfl, rlo, rhi (by rw [hus.1]; omega), ?_⟩
    rw [Int.toNat_natCast, hus.1]
    refine for_rg (fun i σ H' => ∃ v1 v2, σ = [some (.ref a), v1, v2] ∧ Same H H' ∧ ∀ i' j, i' < i → i' < j → j < ls.length → 0 ≤ dotL (lg ls i') (lg ls j)) ⟨none, none, rfl, .refl _, fun i' j h => absurd h (by omega)⟩ ?_ ?_
    · rintro i _ H1 hi ⟨v1, v2, rfl, s1, c1⟩
      refine ⟨_, rfl, _, _, rfl, rfl, _, rfl, a, us, rfl, lenS (SqB.to ha s1), _, _, rfl, ⟨by omega, by omega, by omega, by rw [hus.1]; omega⟩, ?_⟩
      rw [hus.1, show ((ls.length : Int) - ((i : Int) + 1)).toNat = ls.length - (i + 1) by omega]
      refine for_range (lo := (i : Int) + 1) (fun j σ H' => ∃ v2, σ = [some (.ref a), some (.int (i : Nat)), v2] ∧ Same H H' ∧ ∀ j', i < j' → j' < i + 1 + j → 0 ≤ dotL (lg ls i) (lg ls j')) ⟨_, rfl, s1, fun j' h1 h2 => absurd h1 (by omega)⟩ ?_ ?_
      · rintro j _ H2 hj ⟨v2, rfl, s2, c2⟩
        rw [show ((i : Int) + 1 + (j : Int)) = ((i + 1 + j : Nat) : Int) by omega]
        obtain ⟨x, hx1, hx2⟩ := hus.get (List.getElem?_eq_getElem hi)
        have hjl : i + 1 + j < ls.length := by omega
        obtain ⟨y, hy1, hy2⟩ := hus.get (List.getElem?_eq_getElem hjl)
        refine ⟨_, rfl, _, rfl, ixS (SqB.to ha s2) hx1 ⟨_, rfl, _, rfl, ixS (SqB.to ha s2) hy1 ⟨x, y, _, _, rfl, hx2.mono (stk s2), hy2.mono (stk s2), hb _ (List.getElem_mem hi), hb _ (List.getElem_mem hjl), fun H3 s3 => ⟨_, rfl, ?_⟩⟩⟩⟩
        have e1 : ls[i] = lg ls i := (getD_of (List.getElem?_eq_getElem hi)).symm
        have e2 : ls[i + 1 + j] = lg ls (i + 1 + j) := (getD_of (List.getElem?_eq_getElem hjl)).symm
        rw [e1, e2]
        refine ifB (fun z => ?_) (fun z => ?_)
        · refine ⟨_, rfl, _, rfl, lineN (by simp), fun p np => ?_⟩
          exact k1 _ p i (i + 1 + j) ((s2.trans s3).trans (same_new np)) (by omega) hjl (of_decide_eq_true z) upd_same
        · have z := of_decide_eq_false z
          refine ⟨_, rfl, s2.trans s3, fun j' h1 h2 => ?_⟩
          by_cases q : j' = i + 1 + j
          · rw [q]; omega
          · exact c2 j' h1 (by omega)
      · rintro _ H2 ⟨v2, rfl, s2, c2⟩
        refine ⟨_, _, rfl, s2, fun i' j h1 h2 h3 => ?_⟩
        by_cases q : i' = i
        · subst q; exact c2 j h2 (by omega)
        · exact c1 i' j (by omega) h2 h3
    · rintro _ H1 ⟨v1, v2, rfl, s1, c1⟩
      exact k0 _ s1 fun i j h1 h2 => c1 i j (by omega) h1 h2
end
end Lo

namespace Lo
open PySem PySem.Spec PyProof.Rows L2
theorem kit_ii {K : PySem.W.Frag} : PySem.W.kitOne K (.type "int") (.type "int") = some true := rfl
theorem kit_tt {K : PySem.W.Frag} : PySem.W.kitOne K (.type "tuple") (.type "tuple") = some true := rfl
theorem kit_ib {K : PySem.W.Frag} : PySem.W.kitOne K (.type "int") (.type "bool") = some false := rfl
theorem Choice.swap {n N g : Nat} {t : Nat → Nat} (C : Choice n N g t) {i j : Nat} (hi : i < n) (hj : j < n) : Choice n N g (fun k => if k = j then t i else if k = i then t j else t k) := by
  refine ⟨fun k hk => ?_, fun k l hk hl e => ?_, fun c hc => ?_⟩
  · show (if k = j then t i else if k = i then t j else t k) < N
    split
    · exact C.lt i hi
    · split
      · exact C.lt j hj
      · exact C.lt k hk
  · have e : (if k = j then t i else if k = i then t j else t k) = (if l = j then t i else if l = i then t j else t l) := e
    by_cases k1 : k = j <;> by_cases l1 : l = j
    · omega
    · rw [if_pos k1, if_neg l1] at e
      by_cases l2 : l = i
      · rw [if_pos l2] at e; have := C.inj _ _ hi hj e; omega
      · rw [if_neg l2] at e; have := C.inj _ _ hi hl e; omega
    · rw [if_neg k1, if_pos l1] at e
      by_cases k2 : k = i
      · rw [if_pos k2] at e; have := C.inj _ _ hj hi e; omega
      · rw [if_neg k2] at e; have := C.inj _ _ hk hi e; omega
    · rw [if_neg k1, if_neg l1] at e
      by_cases k2 : k = i <;> by_cases l2 : l = i
      · omega
      · rw [if_pos k2, if_neg l2] at e; have := C.inj _ _ hj hl e; omega
      · rw [if_neg k2, if_pos l2] at e; have := C.inj _ _ hk hj e; omega
      · rw [if_neg k2, if_neg l2] at e; exact C.inj _ _ hk hl e
  · obtain ⟨k, hk, e⟩ := C.cov c hc
    by_cases q : k = i
    · refine ⟨j, hj, ?_⟩
      show (if j = j then t i else _) = c
      rw [if_pos rfl, ← q]; exact e
    · by_cases q2 : k = j
      · refine ⟨i, hi, ?_⟩
        show (if i = j then t i else if i = i then t j else t i) = c
        by_cases z : i = j
        · rw [if_pos z, z, ← q2]; exact e
        · rw [if_neg z, if_pos rfl, ← q2]; exact e
      · refine ⟨k, hk, ?_⟩
        show (if k = j then t i else if k = i then t j else t k) = c
        rw [if_neg q2, if_neg q]; exact e
section
variable {P : Program} {w : World} {K : PySem.W.Frag} {mg : Str → Option Value} {base : Heap}
/-! ### _law_uncrossed, _law_price, _law_is_int, _law_is_column -/
abbrev sUc : Stmt := topS 26
abbrev nUc : List Str := ["_law_legs", "_law_found", "_law_pair", "_law_turn", "_law_i", "_law_j"]
theorem scUc : FnScope nUc ["_law_legs"] (defScope sUc) := ⟨rfl, rfl, rfl, by decide +kernel, rfl, by decide +kernel, by decide +kernel⟩
def spUc : Sp := fun vs H Q _ => ∃ (x : V) (fs gs ss : List Col) (t : Nat → Nat), vs = [x] ∧ Legs H x (legsOf fs (gs ++ ss) t) ∧ Job fs gs ss ∧ jC fs gs ss t ∧
  ∀ H' v t', Same H H' → Legs H' v (legsOf fs (gs ++ ss) t') → jC fs gs ss t' → Q v H'
def PrV (n : Nat) (H : Hp) (v : V) : Prop := v = .non ∨ ∃ p i j, v = .ref p ∧ H p = some (.tup [.int (i : Nat), .int (j : Nat)]) ∧ i < j ∧ j < n
theorem PrV.to {n : Nat} {H H' : Hp} {v : V} (h : PrV n H v) (k : Tk H H') : PrV n H' v := by
  rcases h with h | ⟨p, i, j, e, h, l⟩
  · exact .inl h
  · exact .inr ⟨p, i, j, e, k _ _ h, l⟩
theorem ok_uc (h : Has K mg "_law_uncrossed" sUc ["_law_legs"]) (B : Bl mg) (G : Kept P w K mg base 2 "_law_first_crossing" ["_law_legs"] spFc) : Kept P w K mg base 3 "_law_uncrossed" ["_law_legs"] spUc := by
  refine h.kept fun f fd F => F.ok scUc (fun vs H Q E h => ?_) (fun cdv A outer s H vs Q E hr h => ?_)
  · obtain ⟨x, fs, gs, ss, t, rfl, _⟩ := h
    rfl
  · obtain ⟨x, fs, gs, ss, t, rfl, hx, J, C, k⟩ := h
    refine ⟨_, pss_cons (ps_par (i := 1) (j := 2) rfl scUc.nd rfl rfl (by decide) rfl rfl (pa_cons (pe_callTy call_list_of (by rfl) B.list (by decide +kernel) (pa_cons (pv 0) pa_nil)) (pa_cons (pcall G hr (by rfl) (pa_cons (pv 0) pa_nil)) pa_nil)) rfl)
      (pss_cons (ps_for PassesOwn.never rfl (pi_range1 (by rfl) B.range (pa_cons pe_int pa_nil)) (pg_name (i := 3) scUc.nd rfl (.inl rfl))
        (pss_one (ps_if (pt_cmpR op_notN (pv 2) pe_non (nomark _))
          (pss_cons (ps_asg (pv 2) (pg_tup rfl (pgs_cons (pg_name (i := 4) scUc.nd rfl (.inl rfl)) (pgs_cons (pg_name (i := 5) scUc.nd rfl (.inl rfl)) pgs_nil))))
          (pss_cons (ps_asg (pe_tup (pa_cons (pe_tup (pa_cons (pe_ix (ixT K rfl) (pe_ix (ixL K rfl) (pv 1) (pv 4) (fun _ _ => rfl)) pe_int (fun _ _ => rfl)) (pa_cons (pe_ix (ixT K rfl) (pe_ix (ixL K rfl) (pv 1) (pv 5) (fun _ _ => rfl)) pe_int (fun _ _ => rfl)) pa_nil)))
              (pa_cons (pe_tup (pa_cons (pe_ix (ixT K rfl) (pe_ix (ixL K rfl) (pv 1) (pv 5) (fun _ _ => rfl)) pe_int (fun _ _ => rfl)) (pa_cons (pe_ix (ixT K rfl) (pe_ix (ixL K rfl) (pv 1) (pv 4) (fun _ _ => rfl)) pe_int (fun _ _ => rfl)) pa_nil))) pa_nil)))
            (pg_tup rfl (pgs_cons (pg_sub (pv 1) (pv 4) set_list) (pgs_cons (pg_sub (pv 1) (pv 5) set_list) pgs_nil))))
          (pss_one (ps_set (i := 2) scUc.nd rfl (.inl rfl) (pcall G hr (by rfl) (pa_cons (pv 1) pa_nil)))))) pss_nil)))
      (pss_one (ps_ret (pe_callTy call_tuple_of (by rfl) B.tuple (by decide +kernel) (pa_cons (pv 1) pa_nil))))), ?_⟩
    have hnl := J.n
    obtain ⟨xp, xv, rfl, hxp, hxs⟩ := hx
    refine ⟨_, rfl, xp, xv, rfl, .inr (SqT.at_ hxp), fun fa nfa => ?_⟩
    have s1 := same_new (o := .lst xv) nfa
    have L1 : Lx LV H fa (legsOf fs (gs ++ ss) t) (upd H fa (.lst xv)) := ⟨s1, xv, upd_same, hxs.mono fun _ _ r => r.mono (stk s1)⟩
    have main : ∀ pv H1, Same (upd H fa (.lst xv)) H1 → PrV fs.length H1 pv → ∀ D' : Ends, (∀ σ H1, (∃ t' v2 v3 v4 v5, σ = [some (.ref xp), some (.ref fa), v2, v3, v4, v5] ∧ Lx LV H fa (legsOf fs (gs ++ ss) t') H1 ∧ jC fs gs ss t') → D'.nx σ H1) →
        tFor (iRng1 (tCons (tC (V.int 400)) tNil)) (gName 3) (tIfS (tTest (tOp (fun x y H Q => y = V.non ∧ Q (V.bl !decide (x = V.non)) H) (tVar 2) (tC V.non)))
          (tSeq (tAsg (tVar 2) (gTup K 2 (gCons (gName 4) (gCons (gName 5) gNil))))
            (tSeq (tAsg (tTup (tCons (tTup (tCons (tOp (rIxT K) (tOp (rIxL K) (tVar 1) (tVar 4)) (tC (V.int 0))) (tCons (tOp (rIxT K) (tOp (rIxL K) (tVar 1) (tVar 5)) (tC (V.int 1))) tNil))) (tCons (tTup (tCons (tOp (rIxT K) (tOp (rIxL K) (tVar 1) (tVar 5)) (tC (V.int 0))) (tCons (tOp (rIxT K) (tOp (rIxL K) (tVar 1) (tVar 4)) (tC (V.int 1))) tNil))) tNil)))
              (gTup K 2 (gCons (gSub (tVar 1) (tVar 4) rSetL) (gCons (gSub (tVar 1) (tVar 5) rSetL) gNil)))) (tAsg (tCall spFc [] E0 (tCons (tVar 1) tNil)) (gName 2)))) tNext) D' [some (.ref xp), some (.ref fa), some pv, none, none, none] H1 := by
      intro pv H1 s2 hpv D' kD
      refine ⟨400, rfl, by decide, by decide, ?_⟩
      refine for_rg (n := 400) (fun i σ H' => ∃ t' pv v3 v4 v5, σ = [some (.ref xp), some (.ref fa), some pv, v3, v4, v5] ∧ Lx LV H fa (legsOf fs (gs ++ ss) t') H' ∧ jC fs gs ss t' ∧ PrV fs.length H' pv) ⟨t, pv, none, none, none, rfl, L1.to LV.mo s2, C, hpv⟩ ?_ ?_
      · rintro i _ H2 hi ⟨t', pv, v3, v4, v5, rfl, L, C', hp⟩
        refine ⟨_, rfl, rfl, _, rfl, ?_⟩
        rcases hp with rfl | ⟨p, i, j, rfl, hp, hij, hj⟩
        · refine ifB (fun z => absurd z (by simp)) (fun _ => ?_)
          exact ⟨t', _, _, _, _, rfl, L, C', .inl rfl⟩
        · refine ifB (fun _ => ?_) (fun z => absurd z (by simp))
          refine ⟨_, rfl, p, _, rfl, SqT.at_ hp, rfl, _, _, rfl, _, _, rfl, rfl, ?_⟩
          obtain ⟨sL, vs, e1, q1⟩ := L
          have hi : i < fs.length := by omega
          obtain ⟨a1, x1, y1, g1, g2, g3, g4⟩ := leg_get q1 hi
          obtain ⟨a2, x2, y2, k1, k2, k3, k4⟩ := leg_get q1 hj
          refine ⟨_, rfl, _, rfl, ixX e1 g1 ⟨a1, _, 0, _, rfl, rfl, SqT.at_ g2, at0 _ _, _, rfl, _, rfl, ixX e1 k1 ⟨a2, _, 1, _, rfl, rfl, SqT.at_ k2, at1 _ _ _, lineN (by simp), fun T1 n1 => ?_⟩⟩⟩
          have r1 := same_new (o := .tup [x1, y2]) n1
          refine ⟨_, rfl, _, rfl, ixX (r1 _ _ e1) k1 ⟨a2, _, 0, _, rfl, rfl, SqT.at_ (r1 _ _ k2), at0 _ _, _, rfl, _, rfl, ixX (r1 _ _ e1) g1 ⟨a1, _, 1, _, rfl, rfl, SqT.at_ (r1 _ _ g2), at1 _ _ _, lineN (by simp), fun T2 n2 => ⟨lineN (by simp), fun T3 n3 => ?_⟩⟩⟩⟩
          have r2 := same_new (o := .tup [x2, y1]) n2
          have r3 := same_new (o := .tup [V.ref T1, V.ref T2]) n3
          have r123 := (r1.trans r2).trans r3
          have L3 := Lx.to LV.mo (⟨sL, vs, e1, q1⟩ : Lx LV H fa (legsOf fs (gs ++ ss) t') H2) r123
          refine ⟨T3, _, rfl, SqT.at_ upd_same, rfl, _, _, rfl, _, rfl, _, rfl, L3.set LV.mo nfa (i := i) (x := (fs.getD i z2, (gs ++ ss).getD (t' j) z2)) (by rw [legsOf_len]; exact hi) ⟨T1, x1, y2, rfl, r3 _ _ (r2 _ _ upd_same), g3.mono (stk r123), k4.mono (stk r123)⟩ fun H4 L4 tk4 => ?_⟩
          rw [legs_set] at L4
          refine ⟨_, _, rfl, _, rfl, _, rfl, L4.set LV.mo nfa (i := j) (x := (fs.getD j z2, (gs ++ ss).getD (t' i) z2)) (by rw [legsOf_len]; exact hj) ⟨T2, x2, y1, rfl, tk4 _ _ (r3 _ _ upd_same), (k3.mono (stk r123)).mono tk4, (g4.mono (stk r123)).mono tk4⟩ fun H5 L5 tk5 => ⟨rfl, ?_⟩⟩
          rw [legs_set] at L5
          have C2 := C'.swap hi hj
          obtain ⟨s5, ws, e5, q5⟩ := L5
          refine ⟨_, rfl, false, fa, ws, _, rfl, e5, q5, by rw [legsOf_len]; omega, legs_bd J C2, fun H6 s6 _ => ?_, fun H6 p i j s6 h1 h2 _ hp => ?_⟩
          · exact ⟨_, _, _, _, _, rfl, Lx.to LV.mo ⟨s5, ws, e5, q5⟩ s6, C2, .inl rfl⟩
          · rw [legsOf_len] at h2
            exact ⟨_, _, _, _, _, rfl, Lx.to LV.mo ⟨s5, ws, e5, q5⟩ s6, C2, .inr ⟨p, i, j, rfl, hp, h1, h2⟩⟩
      · rintro _ H2 ⟨t', pv, v3, v4, v5, rfl, L, C', _⟩
        exact kD _ _ ⟨t', _, _, _, _, rfl, L, C'⟩
    refine ⟨_, rfl, true, xp, xv, _, rfl, s1 _ _ hxp, hxs.mono fun _ _ r => r.mono (stk s1), by rw [legsOf_len]; omega, legs_bd J C, fun H1 s2 _ => ?_, fun H1 p i j s2 h1 h2 _ hp => ?_⟩
    · exact ⟨_, _, rfl, main .non H1 s2 (.inl rfl) _ (fun σ H2 ⟨t', _, _, _, _, e, L, C'⟩ => by subst e; obtain ⟨s, ws, e, q⟩ := L; exact ⟨_, rfl, fa, ws, rfl, .inl ⟨SqL.at_ e, fun l nl => k _ _ t' (s.trans (same_new nl)) ⟨l, ws, rfl, upd_same, q.mono fun _ _ r => r.mono (tk_new nl)⟩ C'⟩⟩)⟩
    · rw [legsOf_len] at h2
      exact ⟨_, _, rfl, main (.ref p) H1 s2 (.inr ⟨p, i, j, rfl, hp, h1, h2⟩) _ (fun σ H2 ⟨t', _, _, _, _, e, L, C'⟩ => by subst e; obtain ⟨s, ws, e, q⟩ := L; exact ⟨_, rfl, fa, ws, rfl, .inl ⟨SqL.at_ e, fun l nl => k _ _ t' (s.trans (same_new nl)) ⟨l, ws, rfl, upd_same, q.mono fun _ _ r => r.mono (tk_new nl)⟩ C'⟩⟩)⟩
end
end Lo

namespace Lo
open PySem PySem.Spec PyProof.Rows L2
/-- columns, each once, all the goals within: a choice -/
theorem choice_of {fs gs ss ys : List Col} (J : Job fs gs ss) (hl : ys.length = fs.length) (hnd : ys.Nodup) (hin : ∀ y ∈ ys, y ∈ gs ++ ss) (hg : ∀ g ∈ gs, g ∈ ys) :
    ∃ t, jC fs gs ss t ∧ ∀ i, i < fs.length → (gs ++ ss).getD (t i) z2 = ys.getD i z2 := by
  have ex : ∀ i, i < fs.length → ∃ c, c < (gs ++ ss).length ∧ (gs ++ ss).getD c z2 = ys.getD i z2 := fun i hi => by
    obtain ⟨c, hc, e⟩ := List.getElem_of_mem (hin _ (getD_mem (d := z2) (show i < ys.length by omega)))
    exact ⟨c, hc, by rw [← e]; exact getD_of (List.getElem?_eq_getElem hc)⟩
  obtain ⟨t, ht⟩ : ∃ t : Nat → Nat, ∀ i, i < fs.length → t i < (gs ++ ss).length ∧ (gs ++ ss).getD (t i) z2 = ys.getD i z2 := by
    refine ⟨fun i => if h : i < fs.length then Classical.choose (ex i h) else 0, fun i hi => ?_⟩
    show (if h : i < fs.length then Classical.choose (ex i h) else 0) < _ ∧ (gs ++ ss).getD (if h : i < fs.length then Classical.choose (ex i h) else 0) z2 = _
    rw [dif_pos hi]
    exact Classical.choose_spec (ex i hi)
  refine ⟨t, ⟨fun i hi => (ht i hi).1, fun i j hi hj e => ?_, fun c hc => ?_⟩, fun i hi => (ht i hi).2⟩
  · have a := (ht i hi).2
    rw [e, (ht j hj).2] at a
    exact (nd_inj hnd (by omega) (by omega) a).symm
  · have hN : (gs ++ ss).length = gs.length + ss.length := List.length_append
    have hm : (gs ++ ss).getD c z2 ∈ ys := hg _ (by
      rw [List.getD_eq_getElem?_getD, List.getElem?_append_left hc, List.getElem?_eq_getElem hc]
      exact List.getElem_mem hc)
    obtain ⟨i, hi, e⟩ := List.getElem_of_mem hm
    have hi' : i < fs.length := by omega
    refine ⟨i, hi', nd_inj (d := z2) J.nd (ht i hi').1 (by omega) ?_⟩
    rw [(ht i hi').2, ← e]
    exact getD_of (List.getElem?_eq_getElem hi)
section
variable {P : Program} {w : World} {K : PySem.W.Frag} {mg : Str → Option Value} {base : Heap}
/-! ### _law_price, _law_is_int, _law_is_column, _law_some_choice -/
abbrev sLr : Stmt := topS 27
abbrev nLr : List Str := ["_law_legs", "_law_one", "_law_other"]
theorem scLr : FnScope nLr ["_law_legs"] (defScope sLr) := ⟨rfl, rfl, rfl, by decide +kernel, rfl, by decide +kernel, by decide +kernel⟩
theorem ok_lr (h : Has K mg "_law_price" sLr ["_law_legs"]) (B : Bl mg) (G : Kept P w K mg base 1 "_law_squared" nLq spSq) : Kept P w K mg base 2 "_law_price" ["_law_legs"] spPr := by
  refine h.kept fun f fd F => F.ok scLr (fun vs H Q E h => ?_) (fun cdv A outer s H vs Q E hr h => ?_)
  · obtain ⟨x, ls, rfl, _⟩ := h
    rfl
  · obtain ⟨x, ls, rfl, ⟨p, us, rfl, hp, hs⟩, hl, hb, k⟩ := h
    refine ⟨_, pss_one (ps_ret (pe_callB (cr_sum rfl) (by rfl) B.sum (by decide +kernel) (pa_cons
      (pe_lc (own := [("_law_one", 1), ("_law_other", 2)]) (g := gTup K 2 (gCons (gName 1) (gCons (gName 2) gNil))) (tt := tYes) rfl scLr.nd (pi_tup (pv 0)) (blkOk_by (N := nLr) (sc := defScope sLr) (by decide +kernel))
        (fun _ _ _ _ _ => pg_tup rfl (pgs_cons (pg_name (i := 1) scLr.nd rfl (Or.inl rfl)) (pgs_cons (pg_name (i := 2) scLr.nd rfl (Or.inl rfl)) pgs_nil))) (fun _ _ _ _ _ => pts_nil)
        (fun _ _ _ _ _ => pcall G hr (by rfl) (pa_cons (pv 1) (pa_cons (pv 2) pa_nil)))) pa_nil))), ?_⟩
    refine ⟨_, rfl, p, rfl, ⟨_, SqT.at_ hp⟩, fun D nD => ?_⟩
    refine lcT (walk_tup (K := K) (a := p) (xs := us)) (fun i acc _ => acc = (ls.take i).map fun (l : Col × Col) => V.int (sqd l.1 l.2)) (by rw [hs.1]; omega) nD (fun _ _ _ _ _ v => v) rfl (fun H' s => SqT.at_ (s _ _ hp)) ?_ ?_
    · rintro i x H1 _ acc hi s1 rfl ⟨rfl, hx⟩ Ky Kn ky kn
      obtain ⟨l, hl1, a, u1, u2, rfl, ha, c1, c2⟩ := hs.get' hx
      have hm := List.mem_of_getElem? hl1
      refine ⟨a, _, rfl, SqT.at_ (s1 _ _ ha), rfl, _, _, rfl, _, _, rfl, rfl, rfl, ?_⟩
      refine ⟨_, rfl, _, rfl, u1, u2, _, _, rfl, c1.mono (stk s1), c2.mono (stk s1), (hb l hm).1, (hb l hm).2, ky _ _ (.refl _) ?_⟩
      rw [List.take_add_one, hl1, List.map_append]; rfl
    · intro H1 acc s1 hD _ v
      rw [hs.1, List.take_length] at v
      exact ⟨D, _, rfl, SqL.at_ (xs := (ls.map fun (l : Col × Col) => sqd l.1 l.2).map V.int) (by rw [List.map_map, hD, v]; rfl), k H1 s1⟩
abbrev sIi : Stmt := topS 28
theorem scIi : FnScope ["_law_thing"] ["_law_thing"] (defScope sIi) := ⟨rfl, rfl, rfl, by decide +kernel, rfl, by decide +kernel, by decide +kernel⟩
def spIi : Sp := fun vs H Q _ => ∃ (i : Int), vs = [.int i] ∧ Q (.bl true) H
theorem isiQ (K : PySem.W.Frag) {X : Cx} (h : X.K = K) : CallR X (.builtin "isinstance") (rIsi K) := by subst h; exact call_isi
theorem ok_ii (h : Has K mg "_law_is_int" sIi ["_law_thing"]) (B : Bl mg) : Kept P w K mg base 1 "_law_is_int" ["_law_thing"] spIi := by
  refine h.kept fun f fd F => F.ok scIi (fun vs H Q E h => ?_) (fun cdv A outer s H vs Q E hr h => ?_)
  · obtain ⟨i, rfl, _⟩ := h
    rfl
  · obtain ⟨i, rfl, k⟩ := h
    refine ⟨_, pss_one (ps_ret (pe_and (pe_callB (isiQ K rfl) (by rfl) B.isinstance (by decide +kernel) (pa_cons (pv 0) (pa_cons (pe_bltn (v := .ty "int") (by rfl) B.int (by decide +kernel) rfl) pa_nil)))
      (pe_one (pe_not (pe_callB (isiQ K rfl) (by rfl) B.isinstance (by decide +kernel) (pa_cons (pv 0) (pa_cons (pe_bltn (v := .ty "bool") (by rfl) B.bool (by decide +kernel) rfl) pa_nil))))))), ?_⟩
    refine ⟨_, rfl, _, _, _, _, true, rfl, .ty "int", .base (.int i), kit_ii, _, rfl, ?_⟩
    refine ifB (fun _ => ?_) (fun z => absurd z (by decide))
    exact ⟨_, rfl, _, _, _, _, false, rfl, .ty "bool", .base (.int i), kit_ib, _, rfl, k⟩
abbrev sIc : Stmt := topS 30
theorem scIc : FnScope ["_law_thing"] ["_law_thing"] (defScope sIc) := ⟨rfl, rfl, rfl, by decide +kernel, rfl, by decide +kernel, by decide +kernel⟩
def spIc : Sp := fun vs H Q _ => ∃ (x : V) (c : Col), vs = [x] ∧ CV H x c ∧ Q (.bl true) H
theorem ok_ic (h : Has K mg "_law_is_column" sIc ["_law_thing"]) (B : Bl mg) (G : Kept P w K mg base 1 "_law_is_int" ["_law_thing"] spIi) : Kept P w K mg base 2 "_law_is_column" ["_law_thing"] spIc := by
  refine h.kept fun f fd F => F.ok scIc (fun vs H Q E h => ?_) (fun cdv A outer s H vs Q E hr h => ?_)
  · obtain ⟨x, c, rfl, _⟩ := h
    rfl
  · obtain ⟨x, c, rfl, ⟨p, rfl, hp⟩, k⟩ := h
    refine ⟨_, pss_one (ps_ret (pe_and (pe_callB (isiQ K rfl) (by rfl) B.isinstance (by decide +kernel) (pa_cons (pv 0) (pa_cons (pe_bltn (v := .ty "tuple") (by rfl) B.tuple (by decide +kernel) rfl) pa_nil)))
      (pe_and (pe_cmpR op_eq (pe_callB (lenQ K rfl) (by rfl) B.len (by decide +kernel) (pa_cons (pv 0) pa_nil)) pe_int (nomark _))
      (pe_and (pcall G hr (by rfl) (pa_cons (pe_ix (ixT K rfl) (pv 0) pe_int (fun _ _ => rfl)) pa_nil))
      (pe_one (pcall G hr (by rfl) (pa_cons (pe_ix (ixT K rfl) (pv 0) pe_int (fun _ _ => rfl)) pa_nil))))))), ?_⟩
    have T := SqT.at_ (K := K) hp
    refine ⟨_, rfl, _, _, _, _, true, rfl, .ty "tuple", .base (.tup hp), kit_tt, _, rfl, ?_⟩
    refine ifB (fun _ => ?_) (fun z => absurd z (by decide))
    refine ⟨_, rfl, p, _, rfl, .inr T, rfl, _, rfl, ?_⟩
    refine ifB (fun _ => ?_) (fun z => absurd rfl (of_decide_eq_false z))
    refine ⟨_, rfl, p, _, 0, _, rfl, rfl, T, at0 _ _, _, rfl, _, rfl, ?_⟩
    refine ifB (fun _ => ?_) (fun z => absurd z (by decide))
    exact ⟨_, rfl, p, _, 1, _, rfl, rfl, T, at1 _ _ _, _, rfl, k⟩
abbrev sSc : Stmt := topS 29
abbrev nSc : List Str := ["_law_bag_here", "_law_froms", "_law_goals", "_law_spare", "_law_tos"]
abbrev aSc : List Str := ["_law_bag_here", "_law_froms", "_law_goals", "_law_spare"]
theorem scSc : FnScope nSc aSc (defScope sSc) := ⟨rfl, rfl, rfl, by decide +kernel, rfl, by decide +kernel, by decide +kernel⟩
def spSc : Sp := fun vs H Q _ => ∃ (ba ca : Addr) (x y z : V) (fs gs ss : List Col), vs = [.ref ba, x, y, z] ∧ Bag ba ca H ∧ Cols H x fs ∧ Cols H y gs ∧ Cols H z ss ∧ Job fs gs ss ∧
  ∀ H' v t, Tk H H' → Legs H' v (legsOf fs (gs ++ ss) t) → jC fs gs ss t → Q v H'
theorem ok_sc (h : Has K mg "_law_some_choice" sSc aSc) (B : Bl mg) (G : Kept P w K mg base 2 "_law_mixed" ["_law_bag_here", "_law_things"] spMi) : Kept P w K mg base 3 "_law_some_choice" aSc spSc := by
  refine h.kept fun f fd F => F.ok scSc (fun vs H Q E h => ?_) (fun cdv A outer s H vs Q E hr h => ?_)
  · obtain ⟨ba, ca, x, y, z, fs, gs, ss, rfl, _⟩ := h
    rfl
  · obtain ⟨ba, ca, x, y, z, fs, gs, ss, rfl, hb, hx, hy, hz, J, k⟩ := h
    refine ⟨_, pss_cons (ps_set (i := 4) scSc.nd rfl (.inl rfl) (pe_op op_cat (pe_callTy call_list_of (by rfl) B.list (by decide +kernel) (pa_cons (pv 2) pa_nil))
        (pe_slice sl_list (pcall G hr (by rfl) (pa_cons (pv 0) (pa_cons (pe_callTy call_list_of (by rfl) B.list (by decide +kernel) (pa_cons (pv 3) pa_nil)) pa_nil))) po_none
          (po_some (pe_op op_sub (pe_callB (lenQ K rfl) (by rfl) B.len (by decide +kernel) (pa_cons (pv 1) pa_nil)) (pe_callB (lenQ K rfl) (by rfl) B.len (by decide +kernel) (pa_cons (pv 2) pa_nil)))))))
      (pss_one (ps_ret (pe_tupZip true false rfl (by rfl) B.tuple (by rfl) B.zip (pa_cons (pv 1) (pa_cons (pcall G hr (by rfl) (pa_cons (pv 0) (pa_cons (pv 4) pa_nil))) pa_nil))))), ?_⟩
    obtain ⟨xp, xv, rfl, hxp, hxs⟩ := hx
    obtain ⟨yp, yv, rfl, hyp, hys⟩ := hy
    obtain ⟨zp, zv, rfl, hzp, hzs⟩ := hz
    have hnl := J.n
    have hgl := J.g
    have hsl := J.s
    have hNl := J.N
    refine ⟨_, rfl, yp, yv, rfl, .inr (SqT.at_ hyp), fun l1 n1 => ?_⟩
    have s1 := same_new (o := .lst yv) n1
    refine ⟨_, rfl, _, rfl, zp, zv, rfl, .inr (SqT.at_ (s1 _ _ hzp)), fun l2 n2 => ?_⟩
    have s2 := same_new (o := .lst zv) n2
    have s12 := s1.trans s2
    have b2 := hb.to s12
    obtain ⟨bx, by', bz, bn, g1, g2, g3, g4⟩ := hb
    have e1b : l1 ≠ ba := (ne_new g1 n1).symm
    have e2b : l2 ≠ ba := (ne_new (s1 _ _ g1) n2).symm
    refine ⟨ba, ca, l2, zv, ss, rfl, b2, upd_same, e2b, hzs.mono fun _ _ r => r.mono (stk s12), by omega, fun H2 fa vs ys s3 b3 hfa hvs hperm hfb hfc => ?_⟩
    have tk3 := b2.tk s3
    have tk13 := (stk s12).trans tk3
    refine ⟨_, rfl, xp, xv, rfl, .inr (SqT.at_ (tk13 _ _ hxp)), _, rfl, yp, yv, rfl, .inr (SqT.at_ (tk13 _ _ hyp)), _, _, rfl, rfl, _, rfl, fa, vs, rfl, SqL.at_ hfa, fun l3 n3 => ?_⟩
    rw [hxs.1, hys.1, show ((fs.length : Int) - (gs.length : Int)) = ((fs.length - gs.length : Nat) : Int) by omega, cut_to]
    have s4 := same_new (o := .lst (vs.take (fs.length - gs.length))) n3
    have el1 : H2 l1 = some (.lst yv) := s3 _ _ (by rw [del_ne e1b]; exact s2 _ _ upd_same)
    have vlen : vs.length = ss.length := by rw [hvs.1, hperm.length_eq]
    refine ⟨l1, l3, _, _, rfl, rfl, s4 _ _ el1, upd_same, lineN (by rw [hys.1, List.length_take]; omega), fun l4 n4 => ?_⟩
    have s5 := same_new (o := .lst (yv ++ vs.take (fs.length - gs.length))) n4
    have s45 := s4.trans s5
    have b5 := b3.to s45
    have tk15 := tk13.trans (stk s45)
    have e4b : l4 ≠ ba := by
      obtain ⟨_, _, _, _, q1, _⟩ := b3.to s4
      exact (ne_new q1 n4).symm
    have tos : Seq (CV (upd (upd H2 l3 (.lst (vs.take (fs.length - gs.length)))) l4 (.lst (yv ++ vs.take (fs.length - gs.length))))) (yv ++ vs.take (fs.length - gs.length)) (gs ++ ys.take (fs.length - gs.length)) :=
      (hys.mono fun _ _ r => r.mono tk15).append ((hvs.take _).mono fun _ _ r => r.mono (stk s45))
    have tlen : (gs ++ ys.take (fs.length - gs.length)).length = fs.length := by
      rw [List.length_append, List.length_take, hperm.length_eq]; omega
    refine ⟨_, rfl, _, rfl, _, rfl, ba, ca, l4, _, _, rfl, b5, upd_same, e4b, tos, by omega, fun H3 fb us zs s6 b6 hfb2 hus hperm2 _ _ => ?_⟩
    have tk6 := b5.tk s6
    have tk16 := tk15.trans tk6
    refine ⟨xp, fb, xv, us, rfl, SqT.at_ (tk16 _ _ hxp), SqL.at_ hfb2, fun H4 p ts s7 np nts tl hp4 hts => ?_⟩
    have s7 : Same H3 H4 := s7
    -- the choice
    have hzl : zs.length = fs.length := by rw [hperm2.length_eq, tlen]
    have ndg := List.nodup_append.mp J.nd
    have ysnd : ys.Nodup := hperm.nodup_iff.mpr ndg.2.1
    have hsub : ∀ c, c ∈ ys.take (fs.length - gs.length) → c ∈ ss := fun c hc => hperm.mem_iff.mp (List.mem_of_mem_take hc)
    have tnd : (gs ++ ys.take (fs.length - gs.length)).Nodup := List.nodup_append.mpr ⟨ndg.1, ysnd.sublist (List.take_sublist _ _), fun a ha b hb => ndg.2.2 a ha b (hsub b hb)⟩
    obtain ⟨t, C, ht⟩ := choice_of J hzl (hperm2.nodup_iff.mpr tnd) (fun c hc => by
      have := hperm2.mem_iff.mp hc
      rcases List.mem_append.mp this with q | q
      · exact List.mem_append_left _ q
      · exact List.mem_append_right _ (hsub c q)) (fun g hg => hperm2.mem_iff.mpr (List.mem_append_left _ hg))
    rw [hxs.1, hus.1, hzl, Nat.min_self] at tl
    refine k H4 _ t (tk16.trans (stk s7)) ⟨p, _, rfl, hp4, by rw [List.length_map, tl, legsOf_len], fun i v l ev el => ?_⟩ C
    have hi : i < fs.length := by
      by_cases q : i < fs.length
      · exact q
      · unfold legsOf at el; rw [arr_get_none (by omega)] at el; cases el
    unfold legsOf at el
    rw [arr_get hi] at el
    cases el
    rw [List.getElem?_map, List.getElem?_eq_getElem (by omega)] at ev
    cases ev
    obtain ⟨x1, hx1, hx2⟩ := hxs.get (List.getElem?_eq_getElem hi)
    have hi2 : i < zs.length := by omega
    obtain ⟨y1, hy1, hy2⟩ := hus.get (List.getElem?_eq_getElem hi2)
    refine ⟨_, x1, y1, rfl, hts i _ x1 y1 (List.getElem?_eq_getElem (by omega)) hx1 hy1, ?_, ?_⟩
    · rw [show (fs.getD i z2, (gs ++ ss).getD (t i) z2).1 = fs[i] from getD_of (List.getElem?_eq_getElem hi)]
      exact hx2.mono (tk16.trans (stk s7))
    · rw [show (fs.getD i z2, (gs ++ ss).getD (t i) z2).2 = (gs ++ ss).getD (t i) z2 from rfl, ht i hi, getD_of (List.getElem?_eq_getElem hi2)]
      exact hy2.mono (stk s7)
end
end Lo

namespace Lo
open PySem PySem.Spec PyProof.Rows L2
theorem arr_nodup {α : Type} {n : Nat} {f : Nat → α} (h : ∀ i j, i < n → j < n → f i = f j → i = j) : (arr n f).Nodup := by
  refine List.pairwise_iff_getElem.mpr fun i j hi hj l e => ?_
  rw [arr_length] at hi hj
  have a : (arr n f)[i]? = some (f i) := arr_get hi
  have b : (arr n f)[j]? = some (f j) := arr_get hj
  rw [List.getElem?_eq_getElem (by rw [arr_length]; exact hi)] at a
  rw [List.getElem?_eq_getElem (by rw [arr_length]; exact hj)] at b
  have a := Option.some.inj a
  have b := Option.some.inj b
  have := h i j hi hj (by rw [← a, ← b]; exact e)
  omega
theorem keys_of {H : Hp} : ∀ {vs : List V} {cs : List Col}, Seq (CV H) vs cs → ∃ ks : List (Addr × List Int), vs = ks.map (fun p => V.ref p.1) ∧ (∀ p ∈ ks, H p.1 = some (.tup (p.2.map V.int))) ∧ ks.map (·.2) = cs.map fun c => [c.1, c.2]
  | [], [], _ => ⟨[], rfl, fun p h => absurd h List.not_mem_nil, rfl⟩
  | [], _ :: _, h => by have := h.1; simp at this
  | _ :: _, [], h => by have := h.1; simp at this
  | v :: vs, c :: cs, h => by
    obtain ⟨⟨a, rfl, ha⟩, t⟩ := h.uncons
    obtain ⟨ks, h1, h2, h3⟩ := keys_of t
    refine ⟨(a, [c.1, c.2]) :: ks, by rw [h1]; rfl, fun p hp => ?_, by rw [List.map_cons, List.map_cons, h3]⟩
    rcases List.mem_cons.mp hp with q | q
    · rw [q]; exact ha
    · exact h2 p q
theorem keys_nodup {cs : List Col} (h : cs.Nodup) : (cs.map fun c => [c.1, c.2]).Nodup := by
  refine List.pairwise_map.mpr (List.Pairwise.imp (fun {a b} n e => n ?_) h)
  have e1 : a.1 = b.1 := by injection e
  have e2 : a.2 = b.2 := by injection e with _ e; injection e
  exact Prod.ext e1 e2
theorem keys_len {ks L : List (Addr × List Int)} (h1 : (ks.map (·.2)).Nodup) (h2 : (L.map (·.2)).Nodup) (h3 : ∀ p ∈ L, p ∈ ks) (h4 : ∀ p ∈ ks, p.2 ∈ L.map (·.2)) : L.length = ks.length := by
  have p : (L.map (·.2)).Perm (ks.map (·.2)) := (List.perm_ext_iff_of_nodup h2 h1).mpr fun a => by
    constructor
    · intro h
      obtain ⟨p, hp, e⟩ := List.mem_map.mp h
      exact List.mem_map.mpr ⟨p, h3 p hp, e⟩
    · intro h
      obtain ⟨p, hp, e⟩ := List.mem_map.mp h
      rw [← e]; exact h4 p hp
  have := p.length_eq
  rw [List.length_map, List.length_map] at this
  exact this
theorem nilNe {K : PySem.W.Frag} {H : Hp} {a b : Addr} {Q : VK} (h1 : H a = some (.lst [])) (h2 : H b = some (.lst [])) (q : Q (.bl false) H) : rNeD K (.ref a) (.ref b) H Q :=
  ⟨.list [], .list [], .lst (SqL.at_ h1) .nil, .lst (SqL.at_ h2) .nil, rfl, rfl, q⟩
theorem nilEq {K : PySem.W.Frag} {H : Hp} {a b : Addr} {Q : VK} (h1 : H a = some (.lst [])) (h2 : H b = some (.lst [])) (q : Q (.bl true) H) : rEqD K (.ref a) (.ref b) H Q :=
  ⟨.list [], .list [], .lst (SqL.at_ h1) .nil, .lst (SqL.at_ h2) .nil, rfl, rfl, q⟩
theorem Bsub {a b c : Nat} (h : a + 65 < c) (hb : b ≤ 65) : a + b < c := by omega
section
variable {P : Program} {w : World} {K : PySem.W.Frag} {mg : Str → Option Value} {base : Heap}
/-! ### _law_is_choice -/
abbrev sIch : Stmt := topS 31
abbrev aIch : List Str := ["_law_froms", "_law_goals", "_law_spare", "_law_thing"]
abbrev nIch : List Str := ["_law_froms", "_law_goals", "_law_spare", "_law_thing", "_law_tos", "_law_one", "_law_leg", "_law_goal", "_law_to"]
theorem scIch : FnScope nIch aIch (defScope sIch) := ⟨rfl, rfl, rfl, by decide +kernel, rfl, by decide +kernel, by decide +kernel⟩
def spIch : Sp := fun vs H Q _ => ∃ (x y z l : V) (fs gs ss : List Col) (t : Nat → Nat), vs = [x, y, z, l] ∧ Cols H x fs ∧ Cols H y gs ∧ Cols H z ss ∧ Legs H l (legsOf fs (gs ++ ss) t) ∧ Job fs gs ss ∧ jC fs gs ss t ∧ ∀ H', Same H H' → Q (.bl true) H'
theorem ok_ich (h : Has K mg "_law_is_choice" sIch aIch) (B : Bl mg) (G : Kept P w K mg base 2 "_law_is_column" ["_law_thing"] spIc) : Kept P w K mg base 3 "_law_is_choice" aIch spIch := by
  refine h.kept fun f fd F => F.ok scIch (fun vs H Q E h => ?_) (fun cdv A outer s H vs Q E hr h => ?_)
  · obtain ⟨x, y, z, l, fs, gs, ss, t, rfl, _⟩ := h
    rfl
  · obtain ⟨x, y, z, l, fs, gs, ss, t, rfl, hx, hy, hz, hL, J, C, k⟩ := h
    refine ⟨_, pss_cons (ps_if (pw_or (pt_not (pt_val (pe_callB (isiQ K rfl) (by rfl) B.isinstance (by decide +kernel) (pa_cons (pv 3) (pa_cons (pe_bltn (v := .ty "tuple") (by rfl) B.tuple (by decide +kernel) rfl) pa_nil)))))
          (pw_or1 (pt_cmpR op_ne (pe_callB (lenQ K rfl) (by rfl) B.len (by decide +kernel) (pa_cons (pv 3) pa_nil)) (pe_callB (lenQ K rfl) (by rfl) B.len (by decide +kernel) (pa_cons (pv 0) pa_nil)) (nomark _)))).pt (pss_one (ps_ret pe_bl)) pss_nil)
      (pss_cons (ps_set (i := 4) scIch.nd rfl (.inr rfl) (pe_lst pa_nil))
      (pss_cons (ps_for PassesOwn.never rfl (pi_zpB true true (by rfl) B.zip (pa_cons (pv 0) (pa_cons (pv 3) pa_nil))) (pg_tup rfl (pgs_cons (pg_name (i := 5) scIch.nd rfl (.inl rfl)) (pgs_cons (pg_name (i := 6) scIch.nd rfl (.inl rfl)) pgs_nil)))
        (pss_cons (ps_if (pw_or (pt_not (pt_val (pe_callB (isiQ K rfl) (by rfl) B.isinstance (by decide +kernel) (pa_cons (pv 6) (pa_cons (pe_bltn (v := .ty "tuple") (by rfl) B.tuple (by decide +kernel) rfl) pa_nil)))))
            (pw_or (pt_cmpR op_ne (pe_callB (lenQ K rfl) (by rfl) B.len (by decide +kernel) (pa_cons (pv 6) pa_nil)) pe_int (nomark _))
            (pw_or (pt_not (pt_val (pcall G hr (by rfl) (pa_cons (pe_ix (ixT K rfl) (pv 6) pe_int (fun _ _ => rfl)) pa_nil))))
            (pw_or (pt_not (pt_val (pcall G hr (by rfl) (pa_cons (pe_ix (ixT K rfl) (pv 6) pe_int (fun _ _ => rfl)) pa_nil))))
            (pw_or1 (pt_cmpR (op_neC (hu65 hr)) (pe_ix (ixT K rfl) (pv 6) pe_int (fun _ _ => rfl)) (pv 5) (nomark _))))))).pt (pss_one (ps_ret pe_bl)) pss_nil)
        (pss_one (ps_expr (pe_bm PySem.F.plainAttrs_list PySem.F.slot_list_append PySem.F.type_list_append mt_append (pv 4) (pa_cons (pe_ix (ixT K rfl) (pv 6) pe_int (fun _ _ => rfl)) pa_nil))))))
      (pss_cons (ps_if (pw_or (pt_cmpR op_ne (pe_callB (lenQ K rfl) (by rfl) B.len (by decide +kernel) (pa_cons (pv 4) pa_nil)) (pe_callB cr_lenSt (by rfl) B.len (by decide +kernel) (pa_cons (pe_callTy (cr_setOfT rfl (Bsub (hu65 hr) (by decide))) (by rfl) B.set (by decide +kernel) (pa_cons (pv 4) pa_nil)) pa_nil)) (nomark _))
          (pw_or1 (pt_cmpR (op_neD (Bsub (hu65 hr) (by decide))) (pe_lc (own := [("_law_goal", 7)]) (g := gName 7) rfl scIch.nd (pi_tup (pv 1)) (blkOk_by (N := nIch) (sc := defScope sIch) (by decide +kernel)) (fun _ _ _ _ _ => pg_name (i := 7) scIch.nd rfl (Or.inl rfl))
              (fun _ _ _ _ _ => pts_one (pt_cmpR (notInC false K rfl (hu65 hr)) (pv 7) (pv 4) rfl)) (fun _ _ _ _ _ => pv 7)) (pe_lst pa_nil) (nomark _)))).pt (pss_one (ps_ret pe_bl)) pss_nil)
      (pss_one (ps_ret (pe_cmpR (op_eqD (Bsub (hu65 hr) (by decide))) (pe_lc (own := [("_law_to", 8)]) (g := gName 8) rfl scIch.nd (pi_list (pv 4)) (blkOk_by (N := nIch) (sc := defScope sIch) (by decide +kernel)) (fun _ _ _ _ _ => pg_name (i := 8) scIch.nd rfl (Or.inl rfl))
              (fun _ _ _ _ _ => pts_one (pw_and (pt_cmpR (notInC true K rfl (hu65 hr)) (pv 8) (pv 1) rfl) (pw_and1 (pt_cmpR (notInC true K rfl (hu65 hr)) (pv 8) (pv 2) rfl))).pt) (fun _ _ _ _ _ => pv 8)) (pe_lst pa_nil) (nomark _))))))), ?_⟩
    have hnl := J.n
    have hgl := J.g
    have hsl := J.s
    obtain ⟨xp, xv, rfl, hxp, hxs⟩ := hx
    obtain ⟨yp, yv, rfl, hyp, hys⟩ := hy
    obtain ⟨zp, zv, rfl, hzp, hzs⟩ := hz
    obtain ⟨lp, lv, rfl, hlp, hls⟩ := hL
    have hll : lv.length = fs.length := by rw [hls.1, legsOf_len]
    refine ⟨_, rfl, _, _, _, _, true, rfl, .ty "tuple", .base (.tup hlp), kit_tt, _, rfl, ?_⟩
    refine ifB (fun z => absurd z (by decide)) (fun _ => ?_)
    refine ⟨_, rfl, lp, lv, rfl, .inr (SqT.at_ hlp), _, rfl, xp, xv, rfl, .inr (SqT.at_ hxp), ?_⟩
    rw [hll, hxs.1]
    refine ⟨rfl, _, rfl, ?_⟩
    refine ifB (fun z => absurd z (by simp)) (fun _ => ?_)
    refine ⟨lineN (by simp), fun fa nfa => ?_⟩
    have L0 : Lx CV H fa [] _ := Lx.new (.refl _) nfa
    refine ⟨_, rfl, _, rfl, xp, lp, xv, lv, rfl, SqT.at_ (L0.sm _ _ hxp), SqT.at_ (L0.sm _ _ hlp), ?_⟩
    refine for_it (walk_zpB (K := K) (b := true) (c := true) (a := xp) (d := lp) (xs := xv) (ys := lv)) (fun i σ H' => ∃ v5 v6, σ = [some (.ref xp), some (.ref yp), some (.ref zp), some (.ref lp), some (.ref fa), v5, v6, none, none] ∧ Lx CV H fa (arr i fun i => (gs ++ ss).getD (t i) z2) H')
      ⟨none, none, rfl, L0⟩ (fun i σ H' _ ⟨_, _, _, L⟩ => ⟨SqT.at_ (L.sm _ _ hxp), SqT.at_ (L.sm _ _ hlp)⟩) ?_ ?_
    · rintro i _ _ H1 _ hi ⟨v5, v6, rfl, L⟩ ⟨T, x1, y1, rfl, nT, rfl, e1, e2⟩
      obtain ⟨hi', a, ox, tx, rfl, ha, c1, c2⟩ := leg_at hls e2
      obtain ⟨cx, q1, q2⟩ := hxs.get' e1
      have ecx : cx = fs.getD i z2 := (getD_of q1).symm
      have L1 := L.to (fun k _ _ h => h.mono k) (same_new (o := .tup [x1, V.ref a]) nT)
      have hA := L1.sm _ _ ha
      have hT := SqT.at_ (K := K) hA
      refine ⟨T, _, rfl, SqT.at_ upd_same, rfl, _, _, rfl, _, _, rfl, rfl, ?_⟩
      refine ⟨_, rfl, _, _, _, _, true, rfl, .ty "tuple", .base (.tup hA), kit_tt, _, rfl, ?_⟩
      refine ifB (fun z => absurd z (by decide)) (fun _ => ?_)
      refine ⟨_, rfl, a, _, rfl, .inr hT, rfl, _, rfl, ?_⟩
      refine ifB (fun z => absurd z (by simp)) (fun _ => ?_)
      refine ⟨_, rfl, a, _, 0, _, rfl, rfl, hT, at0 _ _, _, _, rfl, c1.mono (stk L1.sm), _, rfl, ?_⟩
      refine ifB (fun z => absurd z (by decide)) (fun _ => ?_)
      refine ⟨_, rfl, a, _, 1, _, rfl, rfl, hT, at1 _ _ _, _, _, rfl, c2.mono (stk L1.sm), _, rfl, ?_⟩
      refine ifB (fun z => absurd z (by decide)) (fun _ => ?_)
      refine ⟨_, rfl, a, _, 0, _, rfl, rfl, hT, at0 _ _, _, rfl, _, _, c1.mono (stk L1.sm), q2.mono (stk L1.sm), fun r hr => ⟨r, rfl, ?_⟩⟩
      refine ifB (fun z => absurd ecx.symm (hr.mp z)) (fun _ => ?_)
      refine ⟨_, rfl, L1.ty, _, rfl, a, _, 1, _, rfl, rfl, hT, at1 _ _ _, ?_⟩
      refine app_at (fun k _ _ h => h.mono k) L1 nfa (by rw [arr_length]; omega) (c2.mono (stk L1.sm)) fun H2 L2 _ => ?_
      exact ⟨_, _, rfl, by rw [arr_succ]; exact L2⟩
    · rintro _ H1 ⟨v5, v6, rfl, L⟩
      rw [hll, hxs.1, Nat.min_self] at L
      obtain ⟨s1, vs, e1, q1⟩ := L
      have tnd : (arr fs.length fun i => (gs ++ ss).getD (t i) z2).Nodup := arr_nodup fun i j hi hj e => C.inj i j hi hj (nd_inj J.nd (C.lt i hi) (C.lt j hj) e)
      have vlen : vs.length = fs.length := by rw [q1.1, arr_length]
      obtain ⟨ks, k1, k2, k3⟩ := keys_of q1
      have klen : ks.length = fs.length := by rw [← vlen, k1, List.length_map]
      refine ⟨_, rfl, fa, vs, rfl, .inl (SqL.at_ e1), _, rfl, fa, ks, rfl, by rw [← k1]; exact SqL.at_ e1, fun p hp => SqT.at_ (k2 p hp), by omega, fun sa Lk nsa h1 h2 => ?_⟩
      have s2 : Same H1 (upd H1 sa (SetTO P w sa Lk)) := same_new nsa
      refine ⟨sa, Lk, rfl, upd_same, fun hnd => ?_⟩
      have elen := keys_len (by rw [k3]; exact keys_nodup tnd) hnd h1 h2
      rw [elen, klen, vlen]
      refine ⟨rfl, _, rfl, ?_⟩
      refine ifB (fun z => absurd z (by simp)) (fun _ => ?_)
      have s12 := s1.trans s2
      refine ⟨_, rfl, yp, rfl, ⟨_, SqT.at_ (s12 _ _ hyp)⟩, fun D nD => ?_⟩
      refine lcT (walk_tup (K := K) (a := yp) (xs := yv)) (fun i acc _ => acc = []) (by rw [hys.1]; omega) nD (fun _ _ _ _ _ v => v) rfl (fun H' s => SqT.at_ (s _ _ (s12 _ _ hyp))) ?_ ?_
      · rintro i u H2 _ acc hi s3 rfl ⟨rfl, hu⟩ Ky Kn ky kn
        obtain ⟨c, hc, hcu⟩ := hys.get' hu
        have s123 := s12.trans s3
        refine ⟨rfl, ?_⟩
        refine ⟨_, rfl, _, rfl, c, _, fa, vs, hcu.mono (stk s123), rfl, SqL.at_ (s3 _ _ (s2 _ _ e1)), q1.mono fun _ _ r => r.mono (stk (s2.trans s3)), fun r hr => ⟨r, rfl, ?_⟩⟩
        refine ifB (fun z => ?_) (fun _ => kn _ (.refl _) rfl)
        exfalso
        refine hr.mp z ?_
        have hig : i < gs.length := by rw [hys.1] at hi; exact hi
        obtain ⟨j, hj, ej⟩ := C.cov i hig
        refine List.mem_map.mpr ⟨j, List.mem_range.mpr hj, ?_⟩
        show (gs ++ ss).getD (t j) z2 = c
        rw [ej]
        exact getD_of (by rw [List.getElem?_append_left hig]; exact hc)
      · rintro H2 _ s3 hD _ rfl
        have s123 := s12.trans s3
        refine ⟨lineN (by simp), fun p0 n0 => ?_⟩
        have s4 := same_new (o := .lst []) n0
        refine nilNe (s4 _ _ hD) upd_same ⟨_, rfl, ?_⟩
        refine ifB (fun z => absurd z (by decide)) (fun _ => ?_)
        have s34 := s3.trans s4
        have e4 := s34 _ _ (s2 _ _ e1)
        have s14 := s12.trans s34
        refine ⟨_, rfl, fa, rfl, ⟨_, SqL.at_ e4⟩, fun D2 nD2 => ?_⟩
        refine lcT (walk_list (K := K) (a := fa) (xs := vs)) (fun i acc _ => acc = []) (by omega) nD2 (fun _ _ _ _ _ v => v) rfl (fun H' s => SqL.at_ (s _ _ e4)) ?_ ?_
        · rintro i u H3 _ acc hi s5 rfl ⟨rfl, hu⟩ Ky Kn ky kn
          obtain ⟨c, hc, hcu⟩ := q1.get' hu
          rw [arr_get (by omega)] at hc
          cases hc
          have s15 := s14.trans s5
          refine ⟨rfl, ?_⟩
          refine ⟨_, rfl, _, rfl, _, gs, yp, yv, hcu.mono (stk ((s2.trans s34).trans s5)), rfl, SqT.at_ (s15 _ _ hyp), hys.mono fun _ _ r => r.mono (stk s15), fun r hr => ⟨r, rfl, ?_⟩⟩
          refine ifB (fun z1 => ?_) (fun _ => ifB (fun z => absurd z (by decide)) (fun _ => kn _ (.refl _) rfl))
          refine ⟨_, rfl, _, rfl, _, ss, zp, zv, hcu.mono (stk ((s2.trans s34).trans s5)), rfl, SqT.at_ (s15 _ _ hzp), hzs.mono fun _ _ r => r.mono (stk s15), fun r2 hr2 => ⟨r2, rfl, ?_⟩⟩
          refine ifB (fun z2' => ?_) (fun _ => kn _ (.refl _) rfl)
          exfalso
          have hti := C.lt i (by omega)
          rcases List.mem_append.mp (getD_mem (d := z2) hti) with q | q
          · exact hr.mp z1 q
          · exact hr2.mp z2' q
        · rintro H3 _ s5 hD2 _ rfl
          refine ⟨lineN (by simp), fun p1 n1 => ?_⟩
          have s6 := same_new (o := .lst []) n1
          exact nilEq (s6 _ _ hD2) upd_same (k _ ((s14.trans s5).trans s6))
end
end Lo

namespace Lo
open PySem PySem.Spec PyProof.Rows L2
/-! ### _law_is_paper -/
abbrev kc (c : Col) : List Key := [.inl c.1, .inl c.2]
/-- a pair of a column and a number -/
def WV (H : Hp) (v : V) (x : Col × Int) : Prop := ∃ p a, v = .ref p ∧ H p = some (.tup [.ref a, .int x.2]) ∧ H a = some (.tup [.int x.1.1, .int x.1.2])
theorem WV.mono : Mo WV := fun k _ _ ⟨p, a, e, h1, h2⟩ => ⟨p, a, e, k _ _ h1, k _ _ h2⟩
theorem zip_seq {H' : Hp} {yv : List V} {gs : List Col} {f : Nat → Int} {ts : List Addr} (hys : Seq (CV H') yv gs) (tl : ts.length = min yv.length (arr gs.length fun i => V.int (f i)).length)
    (hts : ∀ (j : Nat) t x y, ts[j]? = some t → yv[j]? = some x → (arr gs.length fun i => V.int (f i))[j]? = some y → H' t = some (.tup [x, y])) : Seq (WV H') (ts.map V.ref) (arr gs.length fun i => (gs.getD i z2, f i)) := by
  rw [hys.1, arr_length, Nat.min_self] at tl
  refine ⟨by rw [List.length_map, arr_length, tl], fun i v x e1 e2 => ?_⟩
  have hi : i < gs.length := by
    by_cases q : i < gs.length
    · exact q
    · rw [arr_get_none (by omega)] at e2; cases e2
  rw [arr_get hi] at e2
  cases e2
  rw [List.getElem?_map, List.getElem?_eq_getElem (by omega)] at e1
  cases e1
  obtain ⟨y, hy1, a, rfl, ha⟩ := hys.get (List.getElem?_eq_getElem hi)
  refine ⟨_, a, rfl, hts i _ _ _ (List.getElem?_eq_getElem (by omega)) hy1 (arr_get hi), ?_⟩
  rw [show (gs.getD i z2, f i).1 = gs[i] from getD_of (List.getElem?_eq_getElem hi)]
  exact ha
theorem pairs_of {H : Hp} : ∀ {vs : List V} {xs : List (Col × Int)}, Seq (WV H) vs xs → ∃ ps : List (Addr × Addr × List Key × V), vs = ps.map (fun p => V.ref p.1) ∧ (∀ p ∈ ps, H p.1 = some (.tup [.ref p.2.1, p.2.2.2]) ∧ H p.2.1 = some (.tup (p.2.2.1.map kV))) ∧
    ps.map (fun p => (p.2.2.1, p.2.2.2)) = xs.map fun x => (kc x.1, V.int x.2)
  | [], [], _ => ⟨[], rfl, fun p h => absurd h List.not_mem_nil, rfl⟩
  | [], _ :: _, h => by have := h.1; simp at this
  | _ :: _, [], h => by have := h.1; simp at this
  | v :: vs, x :: xs, h => by
    obtain ⟨⟨p, a, rfl, h1, h2⟩, t⟩ := h.uncons
    obtain ⟨ps, k1, k2, k3⟩ := pairs_of t
    refine ⟨(p, a, kc x.1, .int x.2) :: ps, by rw [k1]; rfl, fun q hq => ?_, by rw [List.map_cons, List.map_cons, k3]⟩
    rcases List.mem_cons.mp hq with e | e
    · rw [e]; exact ⟨h1, h2⟩
    · exact k2 q e
theorem kc_inj {a b : Col} (e : kc a = kc b) : a = b := by
  have e1 : a.1 = b.1 := by injection e with e _; injection e
  have e2 : a.2 = b.2 := by injection e with _ e; injection e with e _; injection e
  exact Prod.ext e1 e2
theorem valV_mem {κ : Type} [DecidableEq κ] {k : κ} {x : V} : ∀ {kvs : List (κ × V)}, (kvs.map (·.1)).Nodup → (k, x) ∈ kvs → valV kvs k = some x
  | [], _, h => absurd h List.not_mem_nil
  | p :: r, nd, h => by
    rw [List.map_cons, List.nodup_cons] at nd
    rcases List.mem_cons.mp h with e | e
    · rw [valV_pos (by rw [← e]), ← e]
    · rw [valV_neg (fun z => nd.1 (by rw [z]; exact List.mem_map.mpr ⟨_, e, rfl⟩))]
      exact valV_mem nd.2 e
theorem unlock_same {H H' : Hp} {d : Addr} {u z : HO} (h : H d = some u) (s : Same (upd H d z) H') : Same H (upd H' d u) := fun b o e => by
  by_cases q : b = d
  · rw [q] at e ⊢; rw [upd_same]; rw [h] at e; exact e
  · rw [upd_ne q]; exact s _ _ (by rw [upd_ne q]; exact e)
theorem tk_lock {H : Hp} {d : Addr} {kvs : List (List Key × V)} {z : HO} (h : H d = some (.dT kvs)) : Tk H (upd H d z) := fun b ys e => by
  rw [upd_ne (ne_of e h (by intro z; cases z))]; exact e
theorem DGet.r {H : Hp} {a b : Addr} {kvs : List (List Key × V)} {k : List Key} {v : V} (e : Rd H a (.dT kvs)) (eb : H b = some (.tup (k.map kV))) (ev : valV kvs k = some v) : DGet H a (.ref b) (some v) := .inr ⟨kvs, k, b, e, rfl, eb, ev.symm⟩
section
variable {P : Program} {w : World} {K : PySem.W.Frag} {mg : Str → Option Value} {base : Heap}
abbrev sIp : Stmt := topS 32
abbrev aIp : List Str := ["_law_froms", "_law_goals", "_law_spare", "_law_legs", "_law_thing"]
abbrev nIp : List Str := ["_law_froms", "_law_goals", "_law_spare", "_law_legs", "_law_thing", "_law_numbers", "_law_some", "_law_one", "_law_worths", "_law_used", "_law_u", "_law_to", "_law_w"]
theorem scIp : FnScope nIp aIp (defScope sIp) := ⟨rfl, rfl, rfl, by decide +kernel, rfl, by decide +kernel, by decide +kernel⟩
def spIp : Sp := fun vs H Q _ => ∃ (x y z l r : V) (fs gs ss : List Col) (t : Nat → Nat) (u v : Nat → Int), vs = [x, y, z, l, r] ∧ Cols H x fs ∧ Cols H y gs ∧ Cols H z ss ∧ Legs H l (legsOf fs (gs ++ ss) t) ∧ PaV fs gs ss u v H r ∧ Job fs gs ss ∧ jC fs gs ss t ∧ jF fs gs ss u v t ∧ ∀ H', Same H H' → Q (.bl true) H'
theorem ok_ip (h : Has K mg "_law_is_paper" sIp aIp) (B : Bl mg) (G1 : Kept P w K mg base 1 "_law_is_int" ["_law_thing"] spIi) (G2 : Kept P w K mg base 1 "_law_squared" nLq spSq) : Kept P w K mg base 2 "_law_is_paper" aIp spIp := by
  refine h.kept fun f fd F => F.ok scIp (fun vs H Q E h => ?_) (fun cdv A outer s H vs Q E hr h => ?_)
  · obtain ⟨x, y, z, l, r, fs, gs, ss, t, u, v, rfl, _⟩ := h
    rfl
  · obtain ⟨x, y, z, l, r, fs, gs, ss, t, u, v, rfl, hx, hy, hz, hL, hP, J, C, Fi, k⟩ := h
    refine ⟨_, pss_cons (ps_if (pw_or (pt_not (pt_val (pe_callB (isiQ K rfl) (by rfl) B.isinstance (by decide +kernel) (pa_cons (pv 4) (pa_cons (pe_bltn (v := .ty "tuple") (by rfl) B.tuple (by decide +kernel) rfl) pa_nil)))))
          (pw_or1 (pt_cmpR op_ne (pe_callB (lenQ K rfl) (by rfl) B.len (by decide +kernel) (pa_cons (pv 4) pa_nil)) pe_int (nomark _)))).pt (pss_one (ps_ret pe_bl)) pss_nil)
      (pss_cons (ps_for PassesOwn.never rfl (pi_zpB true true (by rfl) B.zip (pa_cons (pv 4) (pa_cons (pe_tup (pa_cons (pv 0) (pa_cons (pv 1) (pa_cons (pv 2) pa_nil)))) pa_nil))) (pg_tup rfl (pgs_cons (pg_name (i := 5) scIp.nd rfl (.inl rfl)) (pgs_cons (pg_name (i := 6) scIp.nd rfl (.inl rfl)) pgs_nil)))
        (pss_one (ps_if (pw_or (pt_not (pt_val (pe_callB (isiQ K rfl) (by rfl) B.isinstance (by decide +kernel) (pa_cons (pv 5) (pa_cons (pe_bltn (v := .ty "tuple") (by rfl) B.tuple (by decide +kernel) rfl) pa_nil)))))
            (pw_or (pt_cmpR op_ne (pe_callB (lenQ K rfl) (by rfl) B.len (by decide +kernel) (pa_cons (pv 5) pa_nil)) (pe_callB (lenQ K rfl) (by rfl) B.len (by decide +kernel) (pa_cons (pv 6) pa_nil)) (nomark _))
            (pw_or1 (pt_cmpR (op_neD (Bsub (hu65 hr) (by decide))) (pe_lc (own := [("_law_one", 7)]) (g := gName 7) rfl scIp.nd (pi_tup (pv 5)) (blkOk_by (N := nIp) (sc := defScope sIp) (by decide +kernel)) (fun _ _ _ _ _ => pg_name (i := 7) scIp.nd rfl (Or.inl rfl))
                (fun _ _ _ _ _ => pts_one (pt_not (pt_val (pcall G1 (hr.mono (by decide)) (by rfl) (pa_cons (pv 7) pa_nil))))) (fun _ _ _ _ _ => pe_int)) (pe_lst pa_nil) (nomark _))))).pt (pss_one (ps_ret pe_bl)) pss_nil)))
      (pss_cons (ps_set (i := 8) scIp.nd rfl (.inr rfl) (pe_callTy (cr_dictT rfl (Bsub (hu65 hr) (by decide))) (by rfl) B.dict (by decide +kernel) (pa_cons (pe_op op_cat
          (pe_listZip true true rfl (by rfl) B.list (by rfl) B.zip (pa_cons (pv 1) (pa_cons (pe_ix (ixT K rfl) (pv 4) pe_int (fun _ _ => rfl)) pa_nil)))
          (pe_listZip true true rfl (by rfl) B.list (by rfl) B.zip (pa_cons (pv 2) (pa_cons (pe_ix (ixT K rfl) (pv 4) pe_int (fun _ _ => rfl)) pa_nil)))) pa_nil)))
      (pss_cons (ps_set (i := 9) scIp.nd rfl (.inr rfl) (pe_lc (own := [("_law_one", 7), ("_law_to", 11)]) (g := gTup K 2 (gCons (gName 7) (gCons (gName 11) gNil))) (tt := tYes) rfl scIp.nd (pi_tup (pv 3)) (blkOk_by (N := nIp) (sc := defScope sIp) (by decide +kernel))
          (fun _ _ _ _ _ => pg_tup rfl (pgs_cons (pg_name (i := 7) scIp.nd rfl (Or.inl rfl)) (pgs_cons (pg_name (i := 11) scIp.nd rfl (Or.inl rfl)) pgs_nil))) (fun _ _ _ _ _ => pts_nil) (fun _ _ _ _ _ => pv 11)))
      (pss_cons (ps_if (pt_cmpR (op_neD (Bsub (hu65 hr) (by decide))) (pe_lc (own := [("_law_to", 11), ("_law_w", 12)]) (g := gTup K 2 (gCons (gName 11) (gCons (gName 12) gNil))) rfl scIp.nd (pi_zpB true true (by rfl) B.zip (pa_cons (pv 2) (pa_cons (pe_ix (ixT K rfl) (pv 4) pe_int (fun _ _ => rfl)) pa_nil))) (blkOk_by (N := nIp) (sc := defScope sIp) (by decide +kernel))
          (fun _ _ _ _ _ => pg_tup rfl (pgs_cons (pg_name (i := 11) scIp.nd rfl (Or.inl rfl)) (pgs_cons (pg_name (i := 12) scIp.nd rfl (Or.inl rfl)) pgs_nil)))
          (fun _ _ _ _ _ => pts_one (pw_or (pt_cmpR op_gt (pv 12) pe_int (nomark _)) (pw_or1 (pw_and (pt_cmpR (notInC false K rfl (hu65 hr)) (pv 11) (pv 9) rfl) (pw_and1 (pt_cmpR op_ne (pv 12) pe_int (nomark _)))).pt)).pt) (fun _ _ _ _ _ => pe_int)) (pe_lst pa_nil) (nomark _)) (pss_one (ps_ret pe_bl)) pss_nil)
      (pss_cons (ps_for PassesOwn.never rfl (pi_zpB true true (by rfl) B.zip (pa_cons (pv 0) (pa_cons (pe_ix (ixT K rfl) (pv 4) pe_int (fun _ _ => rfl)) pa_nil))) (pg_tup rfl (pgs_cons (pg_name (i := 7) scIp.nd rfl (.inr rfl)) (pgs_cons (pg_name (i := 10) scIp.nd rfl (.inr rfl)) pgs_nil)))
        (pss_one (ps_if (pt_cmpR (op_neD (Bsub (hu65 hr) (by decide))) (pe_lock (pe_lc (own := [("_law_to", 11)]) (g := gName 11) rfl scIp.nd (pi_keys (pv 8)) (blkOk_by (N := nIp) (sc := defScope sIp) (by decide +kernel)) (fun _ _ _ _ _ => pg_name (i := 11) scIp.nd rfl (Or.inl rfl))
            (fun _ _ _ _ _ => pts_one (pt_cmpR op_gt (pe_op op_add (pv 10) (pe_dget (Bsub (hu65 hr) (by decide)) (pv 8) (pv 11) (fun _ _ => rfl))) (pcall G2 hr (by rfl) (pa_cons (pv 7) (pa_cons (pv 11) pa_nil))) (nomark _))) (fun _ _ _ _ _ => pv 11))) (pe_lst pa_nil) (nomark _)) (pss_one (ps_ret pe_bl)) pss_nil)))
      (pss_one (ps_ret (pe_cmpR (op_eqD (Bsub (hu65 hr) (by decide))) (pe_lc (own := [("_law_one", 7), ("_law_to", 11), ("_law_u", 10)]) (g := gTup K 2 (gCons (gTup K 2 (gCons (gName 7) (gCons (gName 11) gNil))) (gCons (gName 10) gNil))) rfl scIp.nd (pi_zpB true true (by rfl) B.zip (pa_cons (pv 3) (pa_cons (pe_ix (ixT K rfl) (pv 4) pe_int (fun _ _ => rfl)) pa_nil))) (blkOk_by (N := nIp) (sc := defScope sIp) (by decide +kernel))
          (fun _ _ _ _ _ => pg_tup rfl (pgs_cons (pg_tup rfl (pgs_cons (pg_name (i := 7) scIp.nd rfl (Or.inl rfl)) (pgs_cons (pg_name (i := 11) scIp.nd rfl (Or.inl rfl)) pgs_nil))) (pgs_cons (pg_name (i := 10) scIp.nd rfl (Or.inl rfl)) pgs_nil)))
          (fun _ _ _ _ _ => pts_one (pt_cmpR op_ne (pe_op op_add (pv 10) (pe_dget (Bsub (hu65 hr) (by decide)) (pv 8) (pv 11) (fun _ _ => rfl))) (pcall G2 hr (by rfl) (pa_cons (pv 7) (pa_cons (pv 11) pa_nil))) (nomark _))) (fun _ _ _ _ _ => pe_int)) (pe_lst pa_nil) (nomark _))))))))), ?_⟩
    have hN : (gs ++ ss).length = gs.length + ss.length := List.length_append
    have hnl := J.n
    have hgl := J.g
    have hsl := J.s
    obtain ⟨xp, xv, rfl, hxp, hxs⟩ := hx
    obtain ⟨yp, yv, rfl, hyp, hys⟩ := hy
    obtain ⟨zp, zv, rfl, hzp, hzs⟩ := hz
    obtain ⟨lp, lv, rfl, hlp, hls⟩ := hL
    obtain ⟨pp, pa, pb, pc, rfl, hpp, hpa, hpb, hpc⟩ := hP
    have hll : lv.length = fs.length := by rw [hls.1, legsOf_len]
    refine ⟨_, rfl, _, _, _, _, true, rfl, .ty "tuple", .base (.tup hpp), kit_tt, _, rfl, ?_⟩
    refine ifB (fun z => absurd z (by decide)) (fun _ => ?_)
    refine ⟨_, rfl, pp, _, rfl, .inr (SqT.at_ hpp), rfl, _, rfl, ?_⟩
    refine ifB (fun z => absurd z (by simp)) (fun _ => ?_)
    refine ⟨_, rfl, _, rfl, _, rfl, _, rfl, lineN (by simp), fun T0 n0 => ⟨pp, T0, _, _, rfl, SqT.at_ (same_new n0 _ _ hpp), SqT.at_ upd_same, ?_⟩⟩
    have s0 := same_new (o := .tup [V.ref xp, V.ref yp, V.ref zp]) n0
    refine for_it (walk_zpB (K := K) (b := true) (c := true) (a := pp) (d := T0) (xs := [V.ref pa, V.ref pb, V.ref pc]) (ys := [V.ref xp, V.ref yp, V.ref zp])) (fun i σ H' => ∃ v5 v6, σ = [some (.ref xp), some (.ref yp), some (.ref zp), some (.ref lp), some (.ref pp), v5, v6, none, none, none, none, none, none] ∧ Same (upd H T0 (.tup [V.ref xp, V.ref yp, V.ref zp])) H')
      ⟨none, none, rfl, .refl _⟩ (fun i σ H' _ ⟨_, _, _, s⟩ => ⟨SqT.at_ (s _ _ (s0 _ _ hpp)), SqT.at_ (s _ _ upd_same)⟩) ?_ ?_
    · rintro i _ _ H1 _ hi ⟨v5, v6, rfl, s1⟩ ⟨T, x1, y1, rfl, nT, rfl, e1, e2⟩
      obtain ⟨na, sa, m, f, sv, rfl, rfl, h1, h2, h3, h4⟩ : ∃ (na sa : Addr) (m : Nat) (f : Nat → Int) (sv : List V), x1 = .ref na ∧ y1 = .ref sa ∧ H na = some (.tup (arr m fun i => V.int (f i))) ∧ H sa = some (.tup sv) ∧ sv.length = m ∧ m ≤ 100 := by
        have hi : i < 3 := hi
        rcases (by omega : i = 0 ∨ i = 1 ∨ i = 2) with rfl | rfl | rfl
        · cases e1; cases e2; exact ⟨pa, xp, _, _, xv, rfl, rfl, hpa, hxp, hxs.1, by omega⟩
        · cases e1; cases e2; exact ⟨pb, yp, _, _, yv, rfl, rfl, hpb, hyp, hys.1, by omega⟩
        · cases e1; cases e2; exact ⟨pc, zp, _, _, zv, rfl, rfl, hpc, hzp, hzs.1, by omega⟩
      have sT := s1.trans (same_new (o := .tup [V.ref na, V.ref sa]) nT)
      have s01 := s0.trans sT
      refine ⟨T, _, rfl, SqT.at_ upd_same, rfl, _, _, rfl, _, _, rfl, rfl, ?_⟩
      refine ⟨_, rfl, _, _, _, _, true, rfl, .ty "tuple", .base (.tup (s01 _ _ h1)), kit_tt, _, rfl, ?_⟩
      refine ifB (fun z => absurd z (by decide)) (fun _ => ?_)
      refine ⟨_, rfl, na, _, rfl, .inr (SqT.at_ (s01 _ _ h1)), _, rfl, sa, _, rfl, .inr (SqT.at_ (s01 _ _ h2)), ?_⟩
      rw [arr_length, h3]
      refine ⟨rfl, _, rfl, ?_⟩
      refine ifB (fun z => absurd z (by simp)) (fun _ => ?_)
      refine ⟨_, rfl, na, rfl, ⟨_, SqT.at_ (s01 _ _ h1)⟩, fun D nD => ?_⟩
      refine lcT (walk_tup (K := K) (a := na) (xs := arr m fun i => V.int (f i))) (fun i acc _ => acc = []) (by rw [arr_length]; omega) nD (fun _ _ _ _ _ v => v) rfl (fun H' s => SqT.at_ (s _ _ (s01 _ _ h1))) ?_ ?_
      · rintro j w1 H2 _ acc hj s2 rfl ⟨rfl, hu⟩ Ky Kn ky kn
        rw [arr_length] at hj
        rw [arr_get hj] at hu
        cases hu
        refine ⟨rfl, ?_⟩
        refine ⟨_, rfl, _, rfl, _, rfl, ?_⟩
        exact ifB (fun z => absurd z (by decide)) (fun _ => kn _ (.refl _) rfl)
      · rintro H2 _ s2 hD _ rfl
        refine ⟨lineN (by simp), fun p0 np0 => ?_⟩
        have s3 := same_new (o := .lst []) np0
        refine nilNe (s3 _ _ hD) upd_same ⟨_, rfl, ?_⟩
        refine ifB (fun z => absurd z (by decide)) (fun _ => ?_)
        exact ⟨_, _, rfl, (sT.trans s2).trans s3⟩
    · rintro _ H1 ⟨v5, v6, rfl, s1⟩
      have s01 := s0.trans s1
      -- the worths
      refine ⟨_, rfl, _, rfl, pp, _, 1, _, rfl, rfl, SqT.at_ (s01 _ _ hpp), at1 _ _ _, yp, pb, yv, _, rfl, SqT.at_ (s01 _ _ hyp), SqT.at_ (s01 _ _ hpb), fun H2 d1 ts1 s2 nd1 _ tl1 e1 hts1 => ?_⟩
      have s2 : Same H1 H2 := s2
      have s02 := s01.trans s2
      refine ⟨_, rfl, _, rfl, pp, _, 2, _, rfl, rfl, SqT.at_ (s02 _ _ hpp), at2 _ _ _ _, zp, pc, zv, _, rfl, SqT.at_ (s02 _ _ hzp), SqT.at_ (s02 _ _ hpc), fun H3 d2 ts2 s3 nd2 _ tl2 e2 hts2 => ?_⟩
      have s3 : Same H2 H3 := s3
      have s03 := s02.trans s3
      have W1 := zip_seq (hys.mono fun _ _ r => r.mono (stk s02)) tl1 hts1
      have W2 := zip_seq (hzs.mono fun _ _ r => r.mono (stk s03)) tl2 hts2
      have W := (W1.mono fun _ _ r => WV.mono (stk s3) r).append W2
      have t1l : ts1.length = gs.length := by rw [tl1, hys.1, arr_length, Nat.min_self]
      have t2l : ts2.length = ss.length := by rw [tl2, hzs.1, arr_length, Nat.min_self]
      have ewl : (arr gs.length fun i => (gs.getD i z2, v i)) ++ (arr ss.length fun i => (ss.getD i z2, v (gs.length + i))) = arr (gs ++ ss).length fun c => ((gs ++ ss).getD c z2, v c) := by
        rw [arr_append, hN]
        refine arr_ext fun c hc => ?_
        by_cases q : c < gs.length
        · rw [if_pos q]
          show _ = ((gs ++ ss).getD c z2, v c)
          rw [List.getD_eq_getElem?_getD, List.getD_eq_getElem?_getD, List.getElem?_append_left q]
        · rw [if_neg q]
          show _ = ((gs ++ ss).getD c z2, v c)
          rw [List.getD_eq_getElem?_getD, List.getD_eq_getElem?_getD, List.getElem?_append_right (by omega), show gs.length + (c - gs.length) = c by omega]
      rw [ewl] at W
      refine ⟨d1, d2, _, _, rfl, rfl, s3 _ _ e1, e2, lineN (by rw [List.length_map, List.length_map]; omega), fun d3 nd3 => ?_⟩
      have s4 := same_new (o := .lst (ts1.map V.ref ++ ts2.map V.ref)) nd3
      obtain ⟨ps, k1, k2, k3⟩ := pairs_of (W.mono fun _ _ r => WV.mono (stk s4) r)
      rw [arr_map] at k3
      have knd : ((arr (gs ++ ss).length fun c => (kc ((gs ++ ss).getD c z2), V.int (v c))).map (·.1)).Nodup := by
        rw [arr_map]
        exact arr_nodup fun i j hi hj e => nd_inj J.nd hi hj (kc_inj e)
      refine ⟨d3, ps, rfl, by rw [← k1]; exact SqL.at_ upd_same, fun p hp => ⟨SqT.at_ (k2 p hp).1, (k2 p hp).2⟩, fun dd ndd => ?_⟩
      rw [k3, putAll_new _ [] (by simpa using knd), List.nil_append]
      have s5 := same_new (o := .dT (arr (gs ++ ss).length fun c => (kc ((gs ++ ss).getD c z2), V.int (v c)))) ndd
      have s05 := s03.trans (s4.trans s5)
      have hval : ∀ c, c < (gs ++ ss).length → valV (arr (gs ++ ss).length fun c => (kc ((gs ++ ss).getD c z2), V.int (v c))) (kc ((gs ++ ss).getD c z2)) = some (.int (v c)) := fun c hc => valV_mem knd (List.mem_of_getElem? (arr_get hc))
      -- the used
      refine ⟨_, rfl, lp, rfl, ⟨_, SqT.at_ (s05 _ _ hlp)⟩, fun D nD => ?_⟩
      refine lcT (walk_tup (K := K) (a := lp) (xs := lv)) (fun i acc H' => Seq (CV H') acc (arr i fun i => (gs ++ ss).getD (t i) z2)) (by omega) nD (fun _ _ _ _ t v => v.mono fun _ _ r => r.mono t) Seq.nil (fun H' s => SqT.at_ (s _ _ (s05 _ _ hlp))) ?_ ?_
      · rintro i w1 H6 _ acc hi s6 q ⟨rfl, hu⟩ Ky Kn ky kn
        obtain ⟨hi', a, ox, tx, rfl, ha, c1, c2⟩ := leg_at hls hu
        have s06 := s05.trans s6
        refine ⟨a, _, rfl, SqT.at_ (s06 _ _ ha), rfl, _, _, rfl, _, _, rfl, rfl, rfl, ?_⟩
        refine ⟨_, rfl, ky _ _ (.refl _) ?_⟩
        rw [arr_succ]
        exact q.snoc (c2.mono (stk s06))
      · intro H6 used s6 hD _ q
        rw [hll] at q
        have s06 := s05.trans s6
        have hdd : H6 dd = some (.dT (arr (gs ++ ss).length fun c => (kc ((gs ++ ss).getD c z2), V.int (v c)))) := s6 _ _ upd_same
        -- what is spare and not used is worth nothing
        refine ⟨_, rfl, _, rfl, pp, _, 2, _, rfl, rfl, SqT.at_ (s06 _ _ hpp), at2 _ _ _ _, zp, pc, _, _, rfl, SqT.at_ (s06 _ _ hzp), SqT.at_ (s06 _ _ hpc), fun D2 nD2 => ?_⟩
        refine lcT (walk_zpB (K := K) (b := true) (c := true) (a := zp) (d := pc) (xs := zv) (ys := arr ss.length fun i => V.int (v (gs.length + i)))) (fun i acc _ => acc = []) (by rw [arr_length, hzs.1]; omega) nD2 (fun _ _ _ _ _ v => v) rfl (fun H' s => ⟨SqT.at_ (s _ _ (s06 _ _ hzp)), SqT.at_ (s _ _ (s06 _ _ hpc))⟩) ?_ ?_
        · rintro i _ H7 _ acc hi s7 rfl ⟨T, x1, y1, rfl, nT, rfl, q1, q2⟩ Ky Kn ky kn
          have hi : i < ss.length := by rw [arr_length, hzs.1] at hi; omega
          have q2 : (arr ss.length fun i => V.int (v (gs.length + i)))[i]? = some y1 := q2
          rw [arr_get hi] at q2
          cases q2
          obtain ⟨cz, hcz, hcv⟩ := hzs.get' q1
          rw [spare_at (gs := gs) hi] at hcz
          cases hcz
          have sT := same_new (o := .tup [x1, V.int (v (gs.length + i))]) nT
          have s7T := s7.trans sT
          have nonpos := Fi.np (gs.length + i) (by omega) (by omega)
          refine ⟨T, _, rfl, SqT.at_ upd_same, rfl, _, _, rfl, _, _, rfl, rfl, rfl, ?_⟩
          refine ⟨_, rfl, _, _, rfl, rfl, _, rfl, ?_⟩
          refine ifB (fun z => ?_) (fun _ => ?_)
          · exfalso
            have := of_decide_eq_true z
            omega
          refine ⟨_, rfl, _, rfl, _, _, D, used, hcv.mono (stk (s06.trans s7T)), rfl, SqL.at_ (s7T _ _ hD), q.mono fun _ _ r => r.mono (stk s7T), fun r hr => ⟨r, rfl, ?_⟩⟩
          refine ifB (fun z1 => ?_) (fun _ => ifB (fun z => absurd z (by decide)) (fun _ => kn _ sT rfl))
          have hz0 : v (gs.length + i) = 0 := Fi.zero (gs.length + i) (by omega) (by omega) fun j hj e => hr.mp z1 (List.mem_map.mpr ⟨j, List.mem_range.mpr hj, by rw [e]⟩)
          refine ⟨_, rfl, rfl, _, rfl, ?_⟩
          refine ifB (fun z => ?_) (fun _ => kn _ sT rfl)
          exfalso
          have z : (!decide (V.int (v (gs.length + i)) = V.int 0)) = true := z
          rw [hz0] at z
          simp at z
        · rintro H7 _ s7 hD2 _ rfl
          refine ⟨lineN (by simp), fun p0 np0 => ?_⟩
          have s8 := same_new (o := .lst []) np0
          refine nilNe (s8 _ _ hD2) upd_same ⟨_, rfl, ?_⟩
          refine ifB (fun z => absurd z (by decide)) (fun _ => ?_)
          have s78 := s7.trans s8
          have s08 := s06.trans s78
          have hdd8 := s78 _ _ hdd
          -- every from, every column
          refine ⟨_, rfl, _, rfl, pp, _, 0, _, rfl, rfl, SqT.at_ (s08 _ _ hpp), at0 _ _, xp, pa, _, _, rfl, SqT.at_ (s08 _ _ hxp), SqT.at_ (s08 _ _ hpa), ?_⟩
          refine for_it (walk_zpB (K := K) (b := true) (c := true) (a := xp) (d := pa) (xs := xv) (ys := arr fs.length fun i => V.int (u i))) (fun i σ H' => ∃ v5 v6 v7 v10, σ = [some (.ref xp), some (.ref yp), some (.ref zp), some (.ref lp), some (.ref pp), v5, v6, v7, some (.ref dd), some (.ref D), v10, none, none] ∧ Same (upd H7 p0 (.lst [])) H')
            ⟨_, _, _, _, rfl, .refl _⟩ (fun i σ H' _ ⟨_, _, _, _, _, s⟩ => ⟨SqT.at_ (s _ _ (s08 _ _ hxp)), SqT.at_ (s _ _ (s08 _ _ hpa))⟩) ?_ ?_
          · rintro i _ _ H9 _ hi ⟨v5, v6, v7, v10, rfl, s9⟩ ⟨T, x1, y1, rfl, nT, rfl, q1, q2⟩
            have hi : i < fs.length := by rw [arr_length, hxs.1] at hi; omega
            have q2 : (arr fs.length fun i => V.int (u i))[i]? = some y1 := q2
            rw [arr_get hi] at q2
            cases q2
            obtain ⟨cx, hcx, hcv⟩ := hxs.get' q1
            have ecx : fs.getD i z2 = cx := getD_of hcx
            have sT := s9.trans (same_new (o := .tup [x1, V.int (u i)]) nT)
            have s0T := s08.trans sT
            refine ⟨T, _, rfl, SqT.at_ upd_same, rfl, _, _, rfl, _, _, rfl, rfl, ?_⟩
            refine ⟨dd, _, sT _ _ hdd8, trivial, fun od => ?_⟩
            refine ⟨_, rfl, dd, od, rfl, .inr ⟨_, upd_same, fun D3 nD3 => ?_⟩⟩
            have hD3 : D3 ≠ dd := fun e => by rw [e, upd_same] at nD3; cases nD3
            refine lcT (walk_keysT (d := dd) (o := od)) (fun i acc _ => acc = []) (by rw [arr_length]; omega) nD3 (fun _ _ _ _ _ v => v) rfl (fun H' s => s _ _ upd_same) ?_ ?_
            · rintro j _ H10 _ acc hj s10 rfl ⟨rfl, kk, vv, qa, hkv, rfl, hq⟩ Ky Kn ky kn
              rw [arr_length] at hj
              rw [arr_get hj] at hkv
              cases hkv
              have tk10 := ((stk s0T).trans (tk_lock (sT _ _ hdd8))).trans (stk s10)
              refine ⟨rfl, ?_⟩
              refine ⟨_, rfl, _, rfl, _, rfl, dd, _, rfl, DGet.r (.inr ⟨od, s10 _ _ upd_same⟩) hq (hval j hj), _, _, rfl, rfl, _, rfl, _, rfl, x1, .ref qa, _, (gs ++ ss).getD j z2, rfl, hcv.mono tk10, ⟨qa, rfl, hq⟩, by rw [← ecx]; exact J.bf _ (getD_mem hi), J.bt _ (getD_mem hj), _, _, rfl, rfl, _, rfl, ?_⟩
              refine ifB (fun z => ?_) (fun _ => kn _ (.refl _) rfl)
              exfalso
              have a := of_decide_eq_true z
              have b := Fi.le i j hi hj
              rw [← ecx] at a
              have e : sqf fs (gs ++ ss) i j = sqd (fs.getD i z2) ((gs ++ ss).getD j z2) := rfl
              omega
            · rintro H10 _ s10 hD3' _ rfl
              refine ⟨s10 _ _ upd_same, lineN (by simp), fun p1 np1 => ?_⟩
              have su := unlock_same (sT _ _ hdd8) s10
              have s11 := same_new (o := .lst []) np1
              refine nilNe (s11 _ _ ((upd_ne hD3).trans hD3')) upd_same ⟨_, rfl, ?_⟩
              refine ifB (fun z => absurd z (by decide)) (fun _ => ?_)
              exact ⟨_, _, _, _, rfl, (sT.trans su).trans s11⟩
          · rintro _ H9 ⟨v5, v6, v7, v10, rfl, s9⟩
            have s09 := s08.trans s9
            have hdd9 := s9 _ _ hdd8
            -- every leg
            refine ⟨_, rfl, _, rfl, pp, _, 0, _, rfl, rfl, SqT.at_ (s09 _ _ hpp), at0 _ _, lp, pa, _, _, rfl, SqT.at_ (s09 _ _ hlp), SqT.at_ (s09 _ _ hpa), fun D3 nD3 => ?_⟩
            refine lcT (walk_zpB (K := K) (b := true) (c := true) (a := lp) (d := pa) (xs := lv) (ys := arr fs.length fun i => V.int (u i))) (fun i acc _ => acc = []) (by rw [arr_length]; omega) nD3 (fun _ _ _ _ _ v => v) rfl (fun H' s => ⟨SqT.at_ (s _ _ (s09 _ _ hlp)), SqT.at_ (s _ _ (s09 _ _ hpa))⟩) ?_ ?_
            · rintro i _ H10 _ acc hi s10 rfl ⟨T, x1, y1, rfl, nT, rfl, q1, q2⟩ Ky Kn ky kn
              obtain ⟨hi', a, ox, tx, rfl, ha, c1, c2⟩ := leg_at hls q1
              have q2 : (arr fs.length fun i => V.int (u i))[i]? = some y1 := q2
              rw [arr_get hi'] at q2
              cases q2
              have hti := C.lt i hi'
              have sT := same_new (o := .tup [V.ref a, V.int (u i)]) nT
              have s10T := s10.trans sT
              have s0T := s09.trans s10T
              have c1' := c1.mono (stk s0T)
              have c2' := c2.mono (stk s0T)
              obtain ⟨ta, rfl, hta⟩ := c2'
              refine ⟨T, _, rfl, SqT.at_ upd_same, rfl, _, _, rfl, a, _, rfl, SqT.at_ (s0T _ _ ha), rfl, _, _, rfl, _, _, rfl, rfl, _, _, rfl, rfl, rfl, ?_⟩
              refine ⟨_, rfl, _, rfl, _, rfl, dd, _, rfl, DGet.r (k := kc ((gs ++ ss).getD (t i) z2)) (.inl (s10T _ _ hdd9)) hta (hval (t i) hti), _, _, rfl, rfl, _, rfl, _, rfl, ox, .ref ta, _, _, rfl, c1', ⟨ta, rfl, hta⟩, J.bf _ (getD_mem hi'), J.bt _ (getD_mem hti), rfl, _, rfl, ?_⟩
              have e : u i + v (t i) = sqd (fs.getD i z2) ((gs ++ ss).getD (t i) z2) := Fi.eq i hi'
              refine ifB (fun z => ?_) (fun _ => kn _ sT rfl)
              exfalso
              have z : (!decide (V.int (u i + v (t i)) = V.int (sqd (fs.getD i z2) ((gs ++ ss).getD (t i) z2)))) = true := z
              rw [e] at z
              simp at z
            · rintro H10 _ s10 hD3 _ rfl
              refine ⟨lineN (by simp), fun p1 np1 => ?_⟩
              have s11 := same_new (o := .lst []) np1
              exact nilEq (s11 _ _ hD3) upd_same (k _ ((s09.trans s10).trans s11))
end
end Lo

namespace Lo
open PySem PySem.Spec PyProof.Rows L2
/-! ### _law_wide_task -/
theorem app_up {α : Type} {R : Hp → V → α → Prop} {H0 H : Hp} {fa : Addr} {xs : List α} {σ : L2.St} (M : Mo R) (h : Lx R H0 fa xs H) (n0 : H0 fa = none) (hl : xs.length ≤ 9999) {y : V} {x : α} (r : R H y x) {Q : VK} (k : ∀ ws, Lx R H0 fa (xs ++ [x]) (upd H fa (.lst ws)) → Tk H (upd H fa (.lst ws)) → Q .non (upd H fa (.lst ws))) :
    tNil σ H fun zs H2 => rAppend (.ref fa) (y :: zs) H2 Q := by
  obtain ⟨s, vs, e, q⟩ := h
  refine ⟨fa, vs, y, rfl, rfl, e, lineL (by rw [q.1]; omega), k _ ⟨same_at s n0, _, upd_same, ?_⟩ (tk_lst e)⟩
  exact (q.snoc r).mono fun _ _ r => M (tk_lst e) r
theorem cut_mid {xs : List V} {a b : Nat} (ha : a ≤ xs.length) : cutV xs (some (a : Int)) (some (b : Int)) = (xs.drop a).take (b - a) := by
  unfold cutV
  rw [HT.sIx_nat, HT.sIx_nat, Nat.min_eq_left ha]
  by_cases q : b ≤ xs.length
  · rw [Nat.min_eq_left q]
  · rw [Nat.min_eq_right (by omega), List.take_of_length_le (by rw [List.length_drop]; exact Nat.le_refl _), List.take_of_length_le (by rw [List.length_drop]; omega)]
/-- near columns -/
def Nr (c : Col) : Prop := (-5 ≤ c.1 ∧ c.1 ≤ 24) ∧ -3 ≤ c.2 ∧ c.2 ≤ 12
abbrev fr0 (n : Nat) : List Col := arr n fun k => (3 * ((k : Int) - (k : Int) / 6 * 6), 3 * ((k : Int) / 6))
abbrev far (n : Nat) : List Col := arr n fun k => (100 + (k : Int), 7)
theorem job_of {n m g : Nat} {ys : List Col} (h1 : 8 ≤ n) (h2 : n ≤ 18) (hg : g ≤ n) (hm : n ≤ m) (hm2 : m ≤ n + 4) (nd : ys.Nodup) (nr : ∀ c ∈ ys, Nr c) : Job (fr0 n) ((ys ++ far n).take g) (((ys ++ far n).drop g).take (m - g)) := by
  have tl : (ys ++ far n).length = ys.length + n := by rw [List.length_append, arr_length]
  have e : (ys ++ far n).take g ++ ((ys ++ far n).drop g).take (m - g) = (ys ++ far n).take m := by
    rw [← List.take_add, show g + (m - g) = m by omega]
  have bt : ∀ c ∈ ys ++ far n, Bc c := fun c hc => by
    rcases List.mem_append.mp hc with q | q
    · obtain ⟨⟨a1, a2⟩, a3, a4⟩ := nr c q
      exact ⟨⟨by omega, by omega⟩, by omega, by omega⟩
    · obtain ⟨k, hk, rfl⟩ := List.mem_map.mp q
      have hk := List.mem_range.mp hk
      exact ⟨⟨by show (-1000 : Int) ≤ 100 + (k : Int); omega, by show 100 + (k : Int) ≤ 1000; omega⟩, by show (-1000 : Int) ≤ 7; decide, by show (7 : Int) ≤ 1000; decide⟩
  refine ⟨by rw [arr_length]; omega, by rw [arr_length]; omega, by rw [arr_length, List.length_take]; omega, ?_, ?_, fun c hc => ?_, fun c hc => ?_, ?_⟩
  · rw [arr_length, List.length_take, List.length_take, List.length_drop, tl]; omega
  · rw [List.length_take, List.length_drop, tl]; omega
  · obtain ⟨k, hk, rfl⟩ := List.mem_map.mp hc
    have hk := List.mem_range.mp hk
    refine ⟨⟨?_, ?_⟩, ?_, ?_⟩
    · show (-1000 : Int) ≤ 3 * ((k : Int) - (k : Int) / 6 * 6); omega
    · show 3 * ((k : Int) - (k : Int) / 6 * 6) ≤ 1000; omega
    · show (-1000 : Int) ≤ 3 * ((k : Int) / 6); omega
    · show 3 * ((k : Int) / 6) ≤ 1000; omega
  · rw [e] at hc
    exact bt c (List.mem_of_mem_take hc)
  · rw [e]
    refine List.Nodup.sublist (List.take_sublist _ _) ?_
    refine List.nodup_append.mpr ⟨nd, arr_nodup fun i j _ _ e => ?_, fun a ha b hb e => ?_⟩
    · have : (100 + (i : Int)) = 100 + (j : Int) := congrArg Prod.fst e
      omega
    · obtain ⟨⟨_, a2⟩, _⟩ := nr a ha
      obtain ⟨k, hk, rfl⟩ := List.mem_map.mp hb
      have : a.1 = 100 + (k : Int) := congrArg Prod.fst e
      omega
section
variable {P : Program} {w : World} {K : PySem.W.Frag} {mg : Str → Option Value} {base : Heap}
abbrev sWt : Stmt := topS 33
abbrev nWt : List Str := ["_law_bag_here", "_law_many", "_law_froms", "_law_tos", "_law_turn", "_law_column", "_law_goals", "_law_k"]
theorem scWt : FnScope nWt ["_law_bag_here"] (defScope sWt) := ⟨rfl, rfl, rfl, by decide +kernel, rfl, by decide +kernel, by decide +kernel⟩
def spWt : Sp := fun vs H Q _ => ∃ (ba ca : Addr), vs = [.ref ba] ∧ Bag ba ca H ∧
  ∀ H' p x y z fs gs ss, Bag ba ca H' → H' p = some (.tup [x, y, z]) → Cols H' x fs → Cols H' y gs → Cols H' z ss → Job fs gs ss → Q (.ref p) H'
theorem ok_wt (h : Has K mg "_law_wide_task" sWt ["_law_bag_here"]) (B : Bl mg) (G : Kept P w K mg base 1 "_law_take" ["_law_bag_here", "_law_many"] spTa) : Kept P w K mg base 2 "_law_wide_task" ["_law_bag_here"] spWt := by
  refine h.kept fun f fd F => F.ok scWt (fun vs H Q E h => ?_) (fun cdv A outer s H vs Q E hr h => ?_)
  · obtain ⟨ba, ca, rfl, _⟩ := h
    rfl
  · obtain ⟨ba, ca, rfl, hb, k⟩ := h
    refine ⟨_, pss_cons (ps_set (i := 1) scWt.nd rfl (.inl rfl) (pe_op op_add pe_int (pcall G hr (by rfl) (pa_cons (pv 0) (pa_cons pe_int pa_nil)))))
      (pss_cons (ps_set (i := 2) scWt.nd rfl (.inl rfl) (pe_callTy call_tuple_of (by rfl) B.tuple (by decide +kernel) (pa_cons
          (pe_lc (own := [("_law_k", 7)]) (g := gName 7) (tt := tYes) rfl scWt.nd (pi_range1 (by rfl) B.range (pa_cons (pv 1) pa_nil)) (blkOk_by (N := nWt) (sc := defScope sWt) (by decide +kernel)) (fun _ _ _ _ _ => pg_name (i := 7) scWt.nd rfl (Or.inl rfl)) (fun _ _ _ _ _ => pts_nil)
            (fun _ _ _ _ _ => pe_tup (pa_cons (pe_op op_mul pe_int (pe_op op_sub (pv 7) (pe_op op_mul (pe_op op_fdiv (pv 7) pe_int) pe_int))) (pa_cons (pe_op op_mul pe_int (pe_op op_fdiv (pv 7) pe_int)) pa_nil)))) pa_nil)))
      (pss_cons (ps_set (i := 3) scWt.nd rfl (.inl rfl) (pe_lst pa_nil))
      (pss_cons (ps_for PassesOwn.never rfl (pi_range1 (by rfl) B.range (pa_cons (pe_op op_mul pe_int (pv 1)) pa_nil)) (pg_name (i := 4) scWt.nd rfl (.inl rfl))
        (pss_cons (ps_set (i := 5) scWt.nd rfl (.inl rfl) (pe_tup (pa_cons (pe_op op_sub (pcall G hr (by rfl) (pa_cons (pv 0) (pa_cons pe_int pa_nil))) pe_int) (pa_cons (pe_op op_sub (pcall G hr (by rfl) (pa_cons (pv 0) (pa_cons pe_int pa_nil))) pe_int) pa_nil))))
        (pss_one (ps_if (pt_cmpR (op_notInC false (hu65 hr)) (pv 5) (pv 3) rfl)
          (pss_one (ps_expr (pe_bm PySem.F.plainAttrs_list PySem.F.slot_list_append PySem.F.type_list_append mt_append (pv 3) (pa_cons (pv 5) pa_nil)))) pss_nil))))
      (pss_cons (ps_set (i := 3) scWt.nd rfl (.inl rfl) (pe_op op_cat (pv 3)
          (pe_lc (own := [("_law_k", 7)]) (g := gName 7) (tt := tYes) rfl scWt.nd (pi_range1 (by rfl) B.range (pa_cons (pv 1) pa_nil)) (blkOk_by (N := nWt) (sc := defScope sWt) (by decide +kernel)) (fun _ _ _ _ _ => pg_name (i := 7) scWt.nd rfl (Or.inl rfl)) (fun _ _ _ _ _ => pts_nil)
            (fun _ _ _ _ _ => pe_tup (pa_cons (pe_op op_add pe_int (pv 7)) (pa_cons pe_int pa_nil))))))
      (pss_cons (ps_set (i := 6) scWt.nd rfl (.inl rfl) (pcall G hr (by rfl) (pa_cons (pv 0) (pa_cons (pe_op op_add (pv 1) pe_int) pa_nil))))
      (pss_one (ps_ret (pe_tup (pa_cons (pv 2) (pa_cons (pe_callTy call_tuple_of (by rfl) B.tuple (by decide +kernel) (pa_cons (pe_slice sl_list (pv 3) po_none (po_some (pv 6))) pa_nil))
        (pa_cons (pe_callTy call_tuple_of (by rfl) B.tuple (by decide +kernel) (pa_cons (pe_slice sl_list (pv 3) (po_some (pv 6)) (po_some (pe_op op_add (pv 1) (pcall G hr (by rfl) (pa_cons (pv 0) (pa_cons pe_int pa_nil)))))) pa_nil)) pa_nil))))))))))), ?_⟩
    -- many
    refine ⟨_, rfl, ba, ca, 11, rfl, hb, by decide, by decide, fun H1 r1 s1 b1 l1 => ⟨_, _, rfl, rfl, ?_⟩⟩
    obtain ⟨n, hn, n8, n18⟩ : ∃ n : Nat, (8 : Int) + (r1 : Int) = (n : Int) ∧ 8 ≤ n ∧ n ≤ 18 := ⟨8 + r1, by omega, by omega, by omega⟩
    show gName 1 (V.int ((8 : Int) + (r1 : Int))) _ _ _
    rw [hn]
    -- froms
    refine ⟨_, rfl, _, rfl, rlo, rhi (by omega), ?_⟩
    rw [Int.toNat_natCast]
    intro D nD
    refine lcT walk_rg (fun i acc H' => Seq (CV H') acc (fr0 i)) (by omega) nD (fun _ _ _ _ t v => v.mono fun _ _ r => r.mono t) Seq.nil (fun _ _ => trivial) ?_ ?_
    · rintro i _ H2 _ acc hi s2 v ⟨rfl, rfl⟩ Ky Kn ky kn
      refine ⟨rfl, ?_⟩
      refine ⟨_, rfl, _, rfl, _, _, rfl, rfl, ⟨by decide, by decide⟩, _, _, rfl, rfl, .inr ⟨by decide, by decide⟩, _, _, rfl, rfl, _, _, rfl, rfl, .inl ⟨by decide, by decide⟩, _, rfl, _, _, rfl, rfl, ⟨by decide, by decide⟩, _, _, rfl, rfl, .inl ⟨by decide, by decide⟩, lineN (by simp), fun T nT => ky _ _ (same_new nT) ?_⟩
      unfold fr0
      rw [arr_succ]
      exact (v.mono fun _ _ r => r.mono (tk_new nT)).snoc ⟨T, rfl, upd_same⟩
    · intro H2 acc s2 hD _ v
      refine ⟨D, acc, rfl, .inl ⟨SqL.at_ hD, fun fp nfp => ?_⟩⟩
      have s3 := same_new (o := .tup acc) nfp
      have s23 := s2.trans s3
      have b3 := b1.to s23
      have F3 : Cols (upd H2 fp (.tup acc)) (.ref fp) (fr0 n) := ⟨fp, acc, rfl, upd_same, v.mono fun _ _ r => r.mono (stk s3)⟩
      generalize upd H2 fp (.tup acc) = G3 at b3 F3 s3 s23 ⊢
      -- tos
      refine ⟨lineN (by simp), fun fa nfa => ?_⟩
      have hfb : fa ≠ ba := by obtain ⟨_, _, _, _, q, _⟩ := b3; exact (ne_new q nfa).symm
      have hfc : fa ≠ ca := by obtain ⟨_, _, _, _, _, q, _⟩ := b3; exact (ne_new q nfa).symm
      have hdf : del G3 ba fa = none := by rw [del_ne hfb]; exact nfa
      have s4 := same_new (o := .lst []) nfa
      refine ⟨_, rfl, _, _, rfl, rfl, .inl ⟨by decide, by decide⟩, _, rfl, by omega, by omega, ?_⟩
      rw [show ((2 : Int) * (n : Int)).toNat = 2 * n by omega]
      refine for_rg (fun i σ H' => ∃ v4 v5, σ = [some (.ref ba), some (.int (n : Nat)), some (.ref fp), some (.ref fa), v4, v5, none, none] ∧ Tk G3 H' ∧ Bag ba ca H' ∧ ∃ ys, Lx CV (del G3 ba) fa ys H' ∧ ys.Nodup ∧ (∀ c ∈ ys, Nr c) ∧ ys.length ≤ i)
        ⟨none, none, rfl, stk s4, b3.to s4, [], Lx.new del_to nfa, List.nodup_nil, fun c hc => absurd hc List.not_mem_nil, Nat.le_refl _⟩ ?_ ?_
      · rintro i _ H5 hi ⟨v4, v5, rfl, tk5, b5, ys, L5, nd5, nr5, len5⟩
        refine ⟨_, rfl, ba, ca, 30, rfl, b5, by decide, by decide, fun H6 r6 s6 b6 l6 => ⟨_, _, rfl, rfl, ?_⟩⟩
        refine ⟨_, rfl, ba, ca, 16, rfl, b6, by decide, by decide, fun H7 r7 s7 b7 l7 => ⟨_, _, rfl, rfl, lineN (by simp), fun T nT => ?_⟩⟩
        have tk6 := b5.tk s6
        have tk7 := b6.tk s7
        have s8 := same_new (o := .tup [V.int ((r6 : Int) - 5), V.int ((r7 : Int) - 3)]) nT
        have L8 : Lx CV (del G3 ba) fa ys (upd H7 T (.tup [V.int ((r6 : Int) - 5), V.int ((r7 : Int) - 3)])) := by
          obtain ⟨sL, vs, e, q⟩ := L5
          refine Lx.to (fun k _ _ h => h.mono k) ⟨(same_del ((same_del sL del_self).trans s6) del_self).trans s7, vs, s7 _ _ (by rw [del_ne hfb]; exact s6 _ _ (by rw [del_ne hfb]; exact e)), q.mono fun _ _ r => r.mono (tk6.trans tk7)⟩ s8
        have tk8 := ((tk5.trans tk6).trans tk7).trans (stk s8)
        have b8 := b7.to s8
        have cT : CV (upd H7 T (.tup [V.int ((r6 : Int) - 5), V.int ((r7 : Int) - 3)])) (.ref T) ((r6 : Int) - 5, (r7 : Int) - 3) := ⟨T, rfl, upd_same⟩
        have L8' := L8
        obtain ⟨sL, vs, e, q⟩ := L8'
        refine ⟨_, rfl, _, rfl, _, ys, fa, vs, cT, rfl, SqL.at_ e, q, fun r hr => ⟨r, rfl, ?_⟩⟩
        refine ifB (fun z => ?_) (fun _ => ?_)
        · refine ⟨_, rfl, L8.ty, _, rfl, app_up (fun k _ _ h => h.mono k) L8 hdf (by omega) cT fun ws L9 tk9 => ?_⟩
          refine ⟨_, _, rfl, tk8.trans tk9, b8.at_ hfb hfc, _, L9, ?_, fun c hc => ?_, by rw [List.length_append]; simp; exact len5⟩
          · exact List.nodup_append.mpr ⟨nd5, List.nodup_cons.mpr ⟨List.not_mem_nil, List.nodup_nil⟩, fun a ha b hb e => by
              rw [List.mem_singleton.mp hb] at e
              exact hr.mp z (by rw [← e]; exact ha)⟩
          · rcases List.mem_append.mp hc with q | q
            · exact nr5 c q
            · rw [List.mem_singleton.mp q]
              exact ⟨⟨by show (-5 : Int) ≤ (r6 : Int) - 5; omega, by show (r6 : Int) - 5 ≤ 24; omega⟩, by show (-3 : Int) ≤ (r7 : Int) - 3; omega, by show (r7 : Int) - 3 ≤ 12; omega⟩
        · exact ⟨_, _, rfl, tk8, b8, ys, L8, nd5, nr5, by omega⟩
      · rintro _ H5 ⟨v4, v5, rfl, tk5, b5, ys, L5, nd5, nr5, len5⟩
        -- the far ones
        refine ⟨_, rfl, _, rfl, _, rfl, rlo, rhi (by omega), ?_⟩
        rw [Int.toNat_natCast]
        intro D2 nD2
        refine lcT walk_rg (fun i acc H' => Seq (CV H') acc (far i)) (by omega) nD2 (fun _ _ _ _ t v => v.mono fun _ _ r => r.mono t) Seq.nil (fun _ _ => trivial) ?_ ?_
        · rintro i _ H6 _ acc hi s6 v ⟨rfl, rfl⟩ Ky Kn ky kn
          refine ⟨rfl, ?_⟩
          refine ⟨_, rfl, _, _, rfl, rfl, lineN (by simp), fun T nT => ky _ _ (same_new nT) ?_⟩
          unfold far
          rw [arr_succ]
          exact (v.mono fun _ _ r => r.mono (tk_new nT)).snoc ⟨T, rfl, upd_same⟩
        · intro H6 acc2 s6 hD2 _ v6
          obtain ⟨sL, vs, e5, q5⟩ := L5
          have vlen : vs.length ≤ 36 := by rw [q5.1]; omega
          have alen : acc2.length = n := by rw [v6.1, arr_length]
          refine ⟨fa, D2, vs, acc2, rfl, rfl, s6 _ _ e5, hD2, lineN (by omega), fun fb nfb => ?_⟩
          have s7 := same_new (o := .lst (vs ++ acc2)) nfb
          have s67 := s6.trans s7
          have tos : Seq (CV (upd H6 fb (.lst (vs ++ acc2)))) (vs ++ acc2) (ys ++ far n) := (q5.mono fun _ _ r => r.mono (stk s67)).append (v6.mono fun _ _ r => r.mono (stk s7))
          have b7 := b5.to s67
          have hgb : fb ≠ ba := by obtain ⟨_, _, _, _, q, _⟩ := b5.to s6; exact (ne_new q nfb).symm
          have tk7 := tk5.trans (stk s67)
          have e7 : upd H6 fb (.lst (vs ++ acc2)) fb = some (.lst (vs ++ acc2)) := upd_same
          generalize upd H6 fb (.lst (vs ++ acc2)) = G7 at s7 s67 tos b7 tk7 e7 ⊢
          -- goals
          refine ⟨_, rfl, _, rfl, _, _, rfl, rfl, ba, ca, n + 1, ?_, b7, by omega, by omega, fun H8 g s8 b8 lg => ?_⟩
          · rw [Int.natCast_add]; rfl
          have tk8 := b7.tk s8
          have e8 : H8 fb = some (.lst (vs ++ acc2)) := s8 _ _ (by rw [del_ne hgb]; exact e7)
          have tos8 := tos.mono fun _ _ r => CV.mono tk8 r
          refine ⟨_, rfl, _, rfl, _, rfl, _, rfl, fb, _, rfl, SqL.at_ e8, fun c1 nc1 => ?_⟩
          rw [cut_to]
          have t1 := same_new (o := .lst ((vs ++ acc2).take g)) nc1
          refine ⟨c1, _, rfl, .inl ⟨SqL.at_ upd_same, fun c2 nc2 => ?_⟩⟩
          have t2 := same_new (o := .tup ((vs ++ acc2).take g)) nc2
          have t12 := t1.trans t2
          have b9 := b8.to t12
          have Gs : Cols (upd (upd H8 c1 (.lst ((vs ++ acc2).take g))) c2 (.tup ((vs ++ acc2).take g))) (.ref c2) ((ys ++ far n).take g) := ⟨c2, _, rfl, upd_same, (tos8.take g).mono fun _ _ r => r.mono (stk t12)⟩
          have tk9 := (tk7.trans tk8).trans (stk t12)
          have e9 := t12 _ _ e8
          have tos9 := tos8.mono fun _ _ r => CV.mono (stk t12) r
          generalize upd (upd H8 c1 (.lst ((vs ++ acc2).take g))) c2 (.tup ((vs ++ acc2).take g)) = G9 at b9 Gs tk9 e9 tos9 ⊢
          refine ⟨_, rfl, _, rfl, _, rfl, _, rfl, _, rfl, ba, ca, 5, rfl, b9, by decide, by decide, fun H10 r s10 b10 lr => ⟨_, _, rfl, rfl, _, rfl, fb, _, rfl, SqL.at_ (s10 _ _ (by rw [del_ne hgb]; exact e9)), fun c3 nc3 => ?_⟩⟩
          have tk10 := b9.tk s10
          rw [← Int.natCast_add, cut_mid (by rw [List.length_append]; omega)]
          have t3 := same_new (o := .lst (((vs ++ acc2).drop g).take (n + r - g))) nc3
          refine ⟨c3, _, rfl, .inl ⟨SqL.at_ upd_same, fun c4 nc4 => ?_⟩⟩
          have t4 := same_new (o := .tup (((vs ++ acc2).drop g).take (n + r - g))) nc4
          refine ⟨lineN (by simp), fun c5 nc5 => ?_⟩
          have t5 := same_new (o := .tup [V.ref fp, V.ref c2, V.ref c4]) nc5
          have tkE := tk10.trans (stk ((t3.trans t4).trans t5))
          refine k _ c5 _ _ _ (fr0 n) ((ys ++ far n).take g) (((ys ++ far n).drop g).take (n + r - g)) (b10.to ((t3.trans t4).trans t5)) upd_same (F3.mono (tk9.trans tkE)) (Gs.mono tkE) ?_ (job_of n8 n18 (by omega) (by omega) (by omega) nd5 nr5)
          exact ⟨c4, _, rfl, t5 _ _ upd_same, ((tos9.drop g).take _).mono fun _ _ r => r.mono tkE⟩
end
end Lo

namespace Lo
open PySem PySem.Spec PyProof.Rows L2
/-! ### law -/
theorem dot_sq (l m : Col × Col) : sqd l.1 l.2 + sqd m.1 m.2 = sqd l.1 m.2 + sqd m.1 l.2 - 2 * dotL l m := by
  obtain ⟨⟨a1, a2⟩, ⟨b1, b2⟩⟩ := l
  obtain ⟨⟨c1, c2⟩, ⟨d1, d2⟩⟩ := m
  unfold sqd dotL
  simp only [Int.sub_mul, Int.mul_sub, Int.mul_comm]
  omega
theorem no_cross {fs gs ss : List Col} {f : Nat → Nat} {u q : Nat → Int} (C : jC fs gs ss f) (F : jF fs gs ss u q f) {i j : Nat} (hi : i < fs.length) (hj : j < fs.length) : 0 ≤ dotL (lg (legsOf fs (gs ++ ss) f) i) (lg (legsOf fs (gs ++ ss) f) j) := by
  have e : ∀ k, k < fs.length → lg (legsOf fs (gs ++ ss) f) k = (fs.getD k z2, (gs ++ ss).getD (f k) z2) := fun k hk => getD_of (by unfold legsOf; rw [arr_get hk])
  rw [e i hi, e j hj]
  have a := F.cross C hi hj
  have b := dot_sq (fs.getD i z2, (gs ++ ss).getD (f i) z2) (fs.getD j z2, (gs ++ ss).getD (f j) z2)
  have c : sqd (fs.getD i z2) ((gs ++ ss).getD (f i) z2) + sqd (fs.getD j z2) ((gs ++ ss).getD (f j) z2) ≤ sqd (fs.getD i z2) ((gs ++ ss).getD (f j) z2) + sqd (fs.getD j z2) ((gs ++ ss).getD (f i) z2) := a
  have b : sqd (fs.getD i z2) ((gs ++ ss).getD (f i) z2) + sqd (fs.getD j z2) ((gs ++ ss).getD (f j) z2) = sqd (fs.getD i z2) ((gs ++ ss).getD (f j) z2) + sqd (fs.getD j z2) ((gs ++ ss).getD (f i) z2) - 2 * dotL (fs.getD i z2, (gs ++ ss).getD (f i) z2) (fs.getD j z2, (gs ++ ss).getD (f j) z2) := b
  omega
theorem sm_split (a : Nat) (f : Nat → Int) : ∀ b, sm (a + b) f = sm a f + sm b fun i => f (a + i)
  | 0 => by rw [Nat.add_zero]; show _ = _ + (0 : Int); rw [Int.add_zero]
  | b + 1 => by
    show sm (a + b) f + f (a + b) = sm a f + (sm b (fun i => f (a + i)) + f (a + b))
    rw [sm_split a f b]; omega
theorem PaV.mono {fs gs ss : List Col} {u v : Nat → Int} {H H' : Hp} {x : V} (h : PaV fs gs ss u v H x) (k : Tk H H') : PaV fs gs ss u v H' x :=
  let ⟨p, a, b, c, e, h1, h2, h3, h4⟩ := h; ⟨p, a, b, c, e, k _ _ h1, k _ _ h2, k _ _ h3, k _ _ h4⟩
section
variable {P : Program} {w : World} {K : PySem.W.Frag} {mg : Str → Option Value} {base : Heap}
abbrev sLaw : Stmt := topS 34
abbrev nLaw : List Str := ["_law_script", "_law_bag_here", "_law_froms", "_law_goals", "_law_spare", "_law_legs", "_law_due", "_law_paper", "_law_other"]
theorem scLaw : FnScope nLaw ["_law_script"] (defScope sLaw) := ⟨rfl, rfl, rfl, by decide +kernel, rfl, by decide +kernel, by decide +kernel⟩
def spLaw (K : PySem.W.Frag) : Sp := fun vs H Q _ => ∃ (a : Addr) (ns : List Int), vs = [.ref a] ∧ SqL K H a (ns.map V.int) ∧ ns.length ≤ 63 ∧ ∀ H', Q (.bl true) H'
theorem sumQ (K : PySem.W.Frag) {X : Cx} (h : X.K = K) (hc : X.calm = true) : CallR X (.builtin "sum") (rSumT K) := by subst h; exact cr_sumT hc
theorem ok_law {f : Addr} {fd : FuncData} (F : Fun K "law" "law" sLaw f fd) (B : Bl mg)
    (Gba : Kept P w K mg base 1 "_law_bag" ["_law_script"] (spBa K)) (Gwt : Kept P w K mg base 2 "_law_wide_task" ["_law_bag_here"] spWt) (Gll : Kept P w K mg base 4 "least_legs" aT spLl) (Gich : Kept P w K mg base 3 "_law_is_choice" aIch spIch)
    (Gfc : Kept P w K mg base 2 "_law_first_crossing" ["_law_legs"] spFc) (Glr : Kept P w K mg base 2 "_law_price" ["_law_legs"] spPr) (Gpo : Kept P w K mg base 6 "potentials" aGo spPo) (Glp : Kept P w K mg base 5 "least_price" aT spLp)
    (Gip : Kept P w K mg base 2 "_law_is_paper" aIp spIp) (Gsc : Kept P w K mg base 3 "_law_some_choice" aSc spSc) (Guc : Kept P w K mg base 3 "_law_uncrossed" ["_law_legs"] spUc) (Ggt : Kept P w K mg base 4 "gained_often" aGo spGt) :
    FnOk P w K mg base CX0 7 f fd ["_law_script"] (spLaw K) := by
  refine F.ok scLaw (fun vs H Q E h => ?_) (fun cdv A outer s H vs Q E hr h => ?_)
  · obtain ⟨a, ns, rfl, _⟩ := h
    rfl
  · obtain ⟨a, ns, rfl, hS, hl, k⟩ := h
    refine ⟨_, pss_cons (ps_set (i := 1) scLaw.nd rfl (.inl rfl) (pcall Gba (hr.mono (by decide)) (by rfl) (pa_cons (pv 0) pa_nil)))
      (pss_cons (ps_asg (pcall Gwt (hr.mono (by decide)) (by rfl) (pa_cons (pv 1) pa_nil)) (pg_tup rfl (pgs_cons (pg_name (i := 2) scLaw.nd rfl (.inl rfl)) (pgs_cons (pg_name (i := 3) scLaw.nd rfl (.inl rfl)) (pgs_cons (pg_name (i := 4) scLaw.nd rfl (.inl rfl)) pgs_nil)))))
      (pss_cons (ps_set (i := 5) scLaw.nd rfl (.inl rfl) (pcall Gll (hr.mono (by decide)) (by rfl) (pa_cons (pv 2) (pa_cons (pv 3) (pa_cons (pv 4) pa_nil)))))
      (pss_cons (ps_if (pw_or (pt_not (pt_val (pcall Gich (hr.mono (by decide)) (by rfl) (pa_cons (pv 2) (pa_cons (pv 3) (pa_cons (pv 4) (pa_cons (pv 5) pa_nil))))))) (pw_or1 (pt_cmpR op_notN (pcall Gfc (hr.mono (by decide)) (by rfl) (pa_cons (pv 5) pa_nil)) pe_non (nomark _)))).pt (pss_one (ps_ret pe_bl)) pss_nil)
      (pss_cons (ps_par (i := 6) (j := 7) rfl scLaw.nd rfl rfl (by decide) rfl rfl (pa_cons (pcall Glr (hr.mono (by decide)) (by rfl) (pa_cons (pv 5) pa_nil)) (pa_cons (pcall Gpo hr (by rfl) (pa_cons (pv 2) (pa_cons (pv 3) (pa_cons (pv 4) (pa_cons (pv 5) pa_nil))))) pa_nil)) rfl)
      (pss_cons (ps_if (pw_or (pt_cmpR op_ne (pcall Glp (hr.mono (by decide)) (by rfl) (pa_cons (pv 2) (pa_cons (pv 3) (pa_cons (pv 4) pa_nil)))) (pv 6) (nomark _)) (pw_or (pt_cmpR op_isN (pv 7) pe_non (nomark _))
          (pw_or1 (pt_not (pt_val (pcall Gip (hr.mono (by decide)) (by rfl) (pa_cons (pv 2) (pa_cons (pv 3) (pa_cons (pv 4) (pa_cons (pv 5) (pa_cons (pv 7) pa_nil))))))))))).pt (pss_one (ps_ret pe_bl)) pss_nil)
      (pss_cons (ps_if (pt_cmpR op_ne (pe_op op_add (pe_op op_add (pe_callB (sumQ K rfl rfl) (by rfl) B.sum (by decide +kernel) (pa_cons (pe_ix (ixT K rfl) (pv 7) pe_int (fun _ _ => rfl)) pa_nil)) (pe_callB (sumQ K rfl rfl) (by rfl) B.sum (by decide +kernel) (pa_cons (pe_ix (ixT K rfl) (pv 7) pe_int (fun _ _ => rfl)) pa_nil)))
          (pe_callB (sumQ K rfl rfl) (by rfl) B.sum (by decide +kernel) (pa_cons (pe_ix (ixT K rfl) (pv 7) pe_int (fun _ _ => rfl)) pa_nil))) (pv 6) (nomark _)) (pss_one (ps_ret pe_bl)) pss_nil)
      (pss_cons (ps_set (i := 8) scLaw.nd rfl (.inl rfl) (pcall Gsc (hr.mono (by decide)) (by rfl) (pa_cons (pv 1) (pa_cons (pv 2) (pa_cons (pv 3) (pa_cons (pv 4) pa_nil))))))
      (pss_cons (ps_if (pw_or (pt_cmpR op_lt (pcall Glr (hr.mono (by decide)) (by rfl) (pa_cons (pv 8) pa_nil)) (pv 6) (nomark _)) (pw_or1 (pt_cmpR op_lt (pcall Glr (hr.mono (by decide)) (by rfl) (pa_cons (pcall Guc (hr.mono (by decide)) (by rfl) (pa_cons (pv 8) pa_nil)) pa_nil)) (pv 6) (nomark _)))).pt (pss_one (ps_ret pe_bl)) pss_nil)
      (pss_one (ps_ret (pe_cmpR op_eq (pcall Glr (hr.mono (by decide)) (by rfl) (pa_cons (pcall Ggt (hr.mono (by decide)) (by rfl) (pa_cons (pv 2) (pa_cons (pv 3) (pa_cons (pv 4) (pa_cons (pv 8) pa_nil))))) pa_nil)) (pv 6) (nomark _)))))))))))), ?_⟩
    -- the task
    refine ⟨_, rfl, a, ns, rfl, hS, hl, fun H1 ba ca s1 _ _ b1 => ?_⟩
    refine ⟨_, rfl, ba, ca, rfl, b1, fun H2 p x y z fs gs ss b2 hp hx hy hz J => ?_⟩
    refine ⟨p, _, rfl, SqT.at_ hp, rfl, _, _, rfl, _, _, rfl, _, _, rfl, rfl, ?_⟩
    have hnl := J.n
    have hN : (gs ++ ss).length = gs.length + ss.length := List.length_append
    -- the least legs
    refine ⟨_, rfl, _, rfl, _, rfl, x, y, z, fs, gs, ss, rfl, hx, hy, hz, J, fun H3 l f u q s3 hL C Fi => ?_⟩
    have k3 := stk s3
    refine ⟨_, rfl, _, rfl, _, rfl, _, rfl, x, y, z, l, fs, gs, ss, f, rfl, hx.mono k3, hy.mono k3, hz.mono k3, hL, J, C, fun H4 s4 => ⟨_, rfl, ?_⟩⟩
    refine ifB (fun z => absurd z (by decide)) (fun _ => ?_)
    have k4 := k3.trans (stk s4)
    have hL4 := hL.mono (stk s4)
    obtain ⟨lp, lv, el, hlp, hls⟩ := hL4
    refine ⟨_, rfl, true, lp, lv, _, by rw [el]; rfl, hlp, hls, by rw [legsOf_len]; omega, legs_bd J C, fun H5 s5 _ => ?_, fun H5 p i j s5 h1 h2 h3 _ => ?_⟩
    case refine_2 =>
      exfalso
      rw [legsOf_len] at h2
      have := no_cross C Fi (i := i) (j := j) (by omega) h2
      omega
    refine ⟨rfl, _, rfl, ?_⟩
    refine ifB (fun z => absurd z (by simp)) (fun _ => ?_)
    have k5 := k4.trans (stk s5)
    have hL5 := hL.mono ((stk s4).trans (stk s5))
    -- the price, the paper
    refine ⟨_, rfl, l, _, rfl, hL5, by rw [legsOf_len]; omega, legs_bd J C, fun H6 s6 => ?_⟩
    rw [pri_legs]
    have k6 := k5.trans (stk s6)
    have hL6 := hL5.mono (stk s6)
    refine ⟨_, rfl, _, rfl, _, rfl, _, rfl, x, y, z, l, fs, gs, ss, f, u, q, rfl, hx.mono k6, hy.mono k6, hz.mono k6, hL6, J, C, Fi, fun H7 r u' v' s7 hP Fp => ⟨_, _, rfl, ?_⟩⟩
    have k7 := k6.trans (stk s7)
    refine ⟨_, rfl, _, rfl, _, rfl, x, y, z, fs, gs, ss, rfl, hx.mono k7, hy.mono k7, hz.mono k7, J, fun H8 f2 u2 q2 s8 C2 F2 => ?_⟩
    have e2 : price fs.length (sqf fs (gs ++ ss)) f2 = price fs.length (sqf fs (gs ++ ss)) f := Fi.same C F2 C2
    rw [e2]
    refine ⟨_, rfl, rfl, _, rfl, ?_⟩
    refine ifB (fun z => absurd z (by simp)) (fun _ => ?_)
    have k8 := k7.trans (stk s8)
    have hL8 := hL6.mono ((stk s7).trans (stk s8))
    have hP8 := hP.mono (stk s8)
    refine ⟨_, rfl, rfl, _, rfl, ?_⟩
    refine ifB (fun z => ?_) (fun _ => ?_)
    · exfalso
      obtain ⟨p, _, _, _, er, _⟩ := hP8
      rw [er] at z
      simp at z
    refine ⟨_, rfl, _, rfl, _, rfl, _, rfl, _, rfl, x, y, z, l, r, fs, gs, ss, f, u', v', rfl, hx.mono k8, hy.mono k8, hz.mono k8, hL8, hP8, J, C, Fp, fun H9 s9 => ⟨_, rfl, ?_⟩⟩
    refine ifB (fun z => absurd z (by decide)) (fun _ => ?_)
    have k9 := k8.trans (stk s9)
    have hP9 := hP8.mono (stk s9)
    -- its sum
    have tight := Fp.tight C
    rw [hN, sm_split] at tight
    obtain ⟨pp, pa, pb, pc, er, h1, h2, h3, h4⟩ := hP9
    subst er
    refine ⟨_, rfl, pp, _, 0, _, rfl, rfl, SqT.at_ h1, at0 _ _, pa, arr fs.length u', rfl, by rw [arr_map]; exact SqT.at_ h2, _, rfl, pp, _, 1, _, rfl, rfl, SqT.at_ h1, at1 _ _ _, pb, arr gs.length v', rfl, by rw [arr_map]; exact SqT.at_ h3, _, _, rfl, rfl,
      _, rfl, pp, _, 2, _, rfl, rfl, SqT.at_ h1, at2 _ _ _ _, pc, arr ss.length (fun i => v' (gs.length + i)), rfl, by rw [arr_map]; exact SqT.at_ h4, _, _, rfl, rfl, _, rfl, rfl, _, rfl, ?_⟩
    have es : (arr fs.length u').sum + (arr gs.length v').sum + (arr ss.length fun i => v' (gs.length + i)).sum = price fs.length (sqf fs (gs ++ ss)) f := by
      rw [sum_arr, sum_arr, sum_arr]; omega
    refine ifB (fun z => ?_) (fun _ => ?_)
    · exfalso
      have z : (!decide (V.int ((arr fs.length u').sum + (arr gs.length v').sum + (arr ss.length fun i => v' (gs.length + i)).sum) = V.int (price fs.length (sqf fs (gs ++ ss)) f))) = true := z
      rw [es] at z
      simp at z
    -- another choice
    have b9 := b2.to (((((((s3.trans s4).trans s5).trans s6).trans s7).trans s8).trans s9))
    refine ⟨_, rfl, _, rfl, _, rfl, _, rfl, ba, ca, x, y, z, fs, gs, ss, rfl, b9, hx.mono k9, hy.mono k9, hz.mono k9, J, fun H10 o t t10 hO Ct => ?_⟩
    have k10 := k9.trans t10
    refine ⟨_, rfl, o, _, rfl, hO, by rw [legsOf_len]; omega, legs_bd J Ct, fun H11 s11 => ?_⟩
    rw [pri_legs]
    refine ⟨_, rfl, _, _, rfl, rfl, _, rfl, ?_⟩
    refine ifB (fun z => ?_) (fun _ => ?_)
    · exfalso
      have a := of_decide_eq_true z
      have b := Fi.least C Ct
      omega
    have hO11 := hO.mono (stk s11)
    have k11 := k10.trans (stk s11)
    refine ⟨_, rfl, o, fs, gs, ss, t, rfl, hO11, J, Ct, fun H12 o2 t2 s12 hO2 C3 => ?_⟩
    refine ⟨o2, _, rfl, hO2, by rw [legsOf_len]; omega, legs_bd J C3, fun H13 s13 => ?_⟩
    rw [pri_legs]
    refine ⟨_, rfl, _, _, rfl, rfl, _, rfl, ?_⟩
    refine ifB (fun z => ?_) (fun _ => ?_)
    · exfalso
      have a := of_decide_eq_true z
      have b := Fi.least C C3
      omega
    have k13 := (k11.trans (stk s12)).trans (stk s13)
    have hO13 := hO11.mono ((stk s12).trans (stk s13))
    refine ⟨_, rfl, _, rfl, _, rfl, _, rfl, x, y, z, o, fs, gs, ss, t, rfl, hz.mono k13, hO13, J, Ct, fun H14 o3 t3 u3 q3 s14 hO3 C4 F4 => ?_⟩
    refine ⟨o3, _, rfl, hO3, by rw [legsOf_len]; omega, legs_bd J C4, fun H15 s15 => ?_⟩
    rw [pri_legs]
    have e4 : price fs.length (sqf fs (gs ++ ss)) t3 = price fs.length (sqf fs (gs ++ ss)) f := Fi.same C F4 C4
    rw [e4]
    refine ⟨_, rfl, rfl, ?_⟩
    rw [decide_eq_true rfl]
    exact k _
end
end Lo

namespace Lo
open PySem PySem.Spec PyProof.Rows L2
/-! ### the end -/
section
variable {K : PySem.W.Frag} {mg : Str → Option Value} {f : Addr} {fd : FuncData}
theorem b_sq (F : Fun K "square_between" "square_between" sSq f fd) : Binds K fd ["one", "other"] [] := F.binds (ps := ["one", "other"]) fun _ _ _ _ _ _ us hl => match us, hl with | [_, _], _ => rfl
theorem b_sw (F : Fun K "squared_way" "squared_way" sSw f fd) : Binds K fd ["leg"] [] := F.binds (ps := ["leg"]) fun _ _ _ _ _ _ us hl => match us, hl with | [_], _ => rfl
theorem b_pr (F : Fun K "price_of" "price_of" sPr f fd) : Binds K fd ["legs"] [] := F.binds (ps := ["legs"]) fun _ _ _ _ _ _ us hl => match us, hl with | [_], _ => rfl
theorem b_fs (F : Fun K "free_spares" "free_spares" sFs f fd) : Binds K fd ["spare", "legs"] [] := F.binds (ps := ["spare", "legs"]) fun _ _ _ _ _ _ us hl => match us, hl with | [_, _], _ => rfl
theorem b_co (F : Fun K "costs_of" "costs_of" sCo f fd) : Binds K fd ["froms", "goals", "spare"] [] := F.binds (ps := ["froms", "goals", "spare"]) fun _ _ _ _ _ _ us hl => match us, hl with | [_, _, _], _ => rfl
theorem b_ma (F : Fun K "matched" "matched" sMa f fd) : Binds K fd ["costs", "columns"] [] := F.binds (ps := ["costs", "columns"]) fun _ _ _ _ _ _ us hl => match us, hl with | [_, _], _ => rfl
theorem b_os (F : Fun K "one_step" "one_step" sOs f fd) : Binds K fd ["costs", "column", "row_of", "of_rows", "of_columns", "least", "ahead", "is_done"] [] := F.binds (ps := ["costs", "column", "row_of", "of_rows", "of_columns", "least", "ahead", "is_done"]) fun _ _ _ _ _ _ us hl => match us, hl with | [_, _, _, _, _, _, _, _], _ => rfl
theorem b_lf (F : Fun K "least_found" "least_found" sLf f fd) : Binds K fd ["froms", "goals", "spare"] [] := F.binds (ps := ["froms", "goals", "spare"]) fun _ _ _ _ _ _ us hl => match us, hl with | [_, _, _], _ => rfl
theorem b_ll (F : Fun K "least_legs" "least_legs" sLl f fd) : Binds K fd ["froms", "goals", "spare"] [] := F.binds (ps := ["froms", "goals", "spare"]) fun _ _ _ _ _ _ us hl => match us, hl with | [_, _, _], _ => rfl
theorem b_lp (F : Fun K "least_price" "least_price" sLp f fd) : Binds K fd ["froms", "goals", "spare"] [] := F.binds (ps := ["froms", "goals", "spare"]) fun _ _ _ _ _ _ us hl => match us, hl with | [_, _, _], _ => rfl
theorem b_gd (F : Fun K "gained" "gained" sGd f fd) : Binds K fd ["spare", "legs", "gain"] [] := F.binds (ps := ["spare", "legs", "gain"]) fun _ _ _ _ _ _ us hl => match us, hl with | [_, _, _], _ => rfl
theorem b_ed (F : Fun K "edges_of" "edges_of" sEd f fd) : Binds K fd ["spare", "legs"] [] := F.binds (ps := ["spare", "legs"]) fun _ _ _ _ _ _ us hl => match us, hl with | [_, _], _ => rfl
theorem b_le (F : Fun K "led_on" "led_on" sLe f fd) : Binds K fd ["edges", "many"] [] := F.binds (ps := ["edges", "many"]) fun _ _ _ _ _ _ us hl => match us, hl with | [_, _], _ => rfl
theorem b_go (F : Fun K "gain_of" "gain_of" sGo f fd) : Binds K fd ["froms", "goals", "spare", "legs"] [] := F.binds (ps := ["froms", "goals", "spare", "legs"]) fun _ _ _ _ _ _ us hl => match us, hl with | [_, _, _, _], _ => rfl
theorem b_gt (F : Fun K "gained_often" "gained_often" sGt f fd) : Binds K fd ["froms", "goals", "spare", "legs"] [] := F.binds (ps := ["froms", "goals", "spare", "legs"]) fun _ _ _ _ _ _ us hl => match us, hl with | [_, _, _, _], _ => rfl
theorem b_po (F : Fun K "potentials" "potentials" sPo f fd) : Binds K fd ["froms", "goals", "spare", "legs"] [] := F.binds (ps := ["froms", "goals", "spare", "legs"]) fun _ _ _ _ _ _ us hl => match us, hl with | [_, _, _, _], _ => rfl
theorem b_ba (F : Fun K "_law_bag" "_law_bag" sBa f fd) : Binds K fd ["_law_script"] [] := F.binds (ps := ["_law_script"]) fun _ _ _ _ _ _ us hl => match us, hl with | [_], _ => rfl
theorem b_ta (F : Fun K "_law_take" "_law_take" sTa f fd) : Binds K fd ["_law_bag_here", "_law_many"] [] := F.binds (ps := ["_law_bag_here", "_law_many"]) fun _ _ _ _ _ _ us hl => match us, hl with | [_, _], _ => rfl
theorem b_mi (F : Fun K "_law_mixed" "_law_mixed" sMi f fd) : Binds K fd ["_law_bag_here", "_law_things"] [] := F.binds (ps := ["_law_bag_here", "_law_things"]) fun _ _ _ _ _ _ us hl => match us, hl with | [_, _], _ => rfl
theorem b_lq (F : Fun K "_law_squared" "_law_squared" sLq f fd) : Binds K fd ["_law_one", "_law_other"] [] := F.binds (ps := ["_law_one", "_law_other"]) fun _ _ _ _ _ _ us hl => match us, hl with | [_, _], _ => rfl
theorem b_dc (F : Fun K "_law_do_cross" "_law_do_cross" sDc f fd) : Binds K fd ["_law_leg", "_law_other"] [] := F.binds (ps := ["_law_leg", "_law_other"]) fun _ _ _ _ _ _ us hl => match us, hl with | [_, _], _ => rfl
theorem b_fc (F : Fun K "_law_first_crossing" "_law_first_crossing" sFc f fd) : Binds K fd ["_law_legs"] [] := F.binds (ps := ["_law_legs"]) fun _ _ _ _ _ _ us hl => match us, hl with | [_], _ => rfl
theorem b_uc (F : Fun K "_law_uncrossed" "_law_uncrossed" sUc f fd) : Binds K fd ["_law_legs"] [] := F.binds (ps := ["_law_legs"]) fun _ _ _ _ _ _ us hl => match us, hl with | [_], _ => rfl
theorem b_lr (F : Fun K "_law_price" "_law_price" sLr f fd) : Binds K fd ["_law_legs"] [] := F.binds (ps := ["_law_legs"]) fun _ _ _ _ _ _ us hl => match us, hl with | [_], _ => rfl
theorem b_ii (F : Fun K "_law_is_int" "_law_is_int" sIi f fd) : Binds K fd ["_law_thing"] [] := F.binds (ps := ["_law_thing"]) fun _ _ _ _ _ _ us hl => match us, hl with | [_], _ => rfl
theorem b_sc (F : Fun K "_law_some_choice" "_law_some_choice" sSc f fd) : Binds K fd ["_law_bag_here", "_law_froms", "_law_goals", "_law_spare"] [] := F.binds (ps := ["_law_bag_here", "_law_froms", "_law_goals", "_law_spare"]) fun _ _ _ _ _ _ us hl => match us, hl with | [_, _, _, _], _ => rfl
theorem b_ic (F : Fun K "_law_is_column" "_law_is_column" sIc f fd) : Binds K fd ["_law_thing"] [] := F.binds (ps := ["_law_thing"]) fun _ _ _ _ _ _ us hl => match us, hl with | [_], _ => rfl
theorem b_ich (F : Fun K "_law_is_choice" "_law_is_choice" sIch f fd) : Binds K fd ["_law_froms", "_law_goals", "_law_spare", "_law_thing"] [] := F.binds (ps := ["_law_froms", "_law_goals", "_law_spare", "_law_thing"]) fun _ _ _ _ _ _ us hl => match us, hl with | [_, _, _, _], _ => rfl
theorem b_ip (F : Fun K "_law_is_paper" "_law_is_paper" sIp f fd) : Binds K fd ["_law_froms", "_law_goals", "_law_spare", "_law_legs", "_law_thing"] [] := F.binds (ps := ["_law_froms", "_law_goals", "_law_spare", "_law_legs", "_law_thing"]) fun _ _ _ _ _ _ us hl => match us, hl with | [_, _, _, _, _], _ => rfl
theorem b_wt (F : Fun K "_law_wide_task" "_law_wide_task" sWt f fd) : Binds K fd ["_law_bag_here"] [] := F.binds (ps := ["_law_bag_here"]) fun _ _ _ _ _ _ us hl => match us, hl with | [_], _ => rfl
theorem b_law (F : Fun K "law" "law" sLaw f fd) : Binds K fd ["_law_script"] [] := F.binds (ps := ["_law_script"]) fun _ _ _ _ _ _ us hl => match us, hl with | [_], _ => rfl
end
theorem Has.of {K : PySem.W.Frag} {mg : Str → Option Value} {h : Heap} {x : Str} {st : Stmt} {ps : List Str} (X : K.In h) (G : h.Ns mainGlobals mg) (hb : ∀ f fd, Fun K x x st f fd → Binds K fd ps []) {f : Addr} {od an : Option Addr} {sl : Array (Option Value)} {oc kV dc pm cd ct : Value}
    (a : PySem.W.nsIn K mainGlobals x = some (some (.ref f))) (l : K.lookup f = some ⟨oc, od, .func (PySem.W.fnOf x x (defArgs st) (defBody st) (defScope st) .none kV dc pm an cd ct), sl⟩) (c : PySem.W.codeIn K cd x = true) (k : PySem.W.keepIn K (.ref f) = true) : Has K mg x st ps :=
  ⟨f, _, fun_mk l c k, hb _ _ (fun_mk l c k), PySem.W.mg_of X G a⟩
theorem Bl.of {K : PySem.W.Frag} {mg : Str → Option Value} {h : Heap} (X : K.In h) (G : h.Ns mainGlobals mg) (z0 : PySem.W.nsIn K mainGlobals "sum" = some none) (z1 : PySem.W.nsIn K mainGlobals "len" = some none) (z2 : PySem.W.nsIn K mainGlobals "max" = some none) (z3 : PySem.W.nsIn K mainGlobals "min" = some none) (z4 : PySem.W.nsIn K mainGlobals "tuple" = some none) (z5 : PySem.W.nsIn K mainGlobals "list" = some none) (z6 : PySem.W.nsIn K mainGlobals "dict" = some none) (z7 : PySem.W.nsIn K mainGlobals "set" = some none) (z8 : PySem.W.nsIn K mainGlobals "zip" = some none) (z9 : PySem.W.nsIn K mainGlobals "enumerate" = some none) (z10 : PySem.W.nsIn K mainGlobals "range" = some none) (z11 : PySem.W.nsIn K mainGlobals "int" = some none) (z12 : PySem.W.nsIn K mainGlobals "abs" = some none) (z13 : PySem.W.nsIn K mainGlobals "isinstance" = some none) (z14 : PySem.W.nsIn K mainGlobals "bool" = some none) : Bl mg :=
  ⟨PySem.W.mg_none_of X G z0, PySem.W.mg_none_of X G z1, PySem.W.mg_none_of X G z2, PySem.W.mg_none_of X G z3, PySem.W.mg_none_of X G z4, PySem.W.mg_none_of X G z5, PySem.W.mg_none_of X G z6, PySem.W.mg_none_of X G z7, PySem.W.mg_none_of X G z8, PySem.W.mg_none_of X G z9, PySem.W.mg_none_of X G z10, PySem.W.mg_none_of X G z11, PySem.W.mg_none_of X G z12, PySem.W.mg_none_of X G z13, PySem.W.mg_none_of X G z14⟩
theorem all_mk {l : PySem.W.OpenLaw} {w : World} {K : PySem.W.Frag} {h : Heap} {mg : Str → Option Value} {fa : Addr} (X : K.In h) (G : h.Ns mainGlobals mg) (hfa : mg "law" = some (.ref fa))
    (h_sq : Has K mg "square_between" sSq ["one", "other"])
    (h_sw : Has K mg "squared_way" sSw ["leg"])
    (h_pr : Has K mg "price_of" sPr ["legs"])
    (h_fs : Has K mg "free_spares" sFs ["spare", "legs"])
    (h_co : Has K mg "costs_of" sCo ["froms", "goals", "spare"])
    (h_ma : Has K mg "matched" sMa ["costs", "columns"])
    (h_os : Has K mg "one_step" sOs ["costs", "column", "row_of", "of_rows", "of_columns", "least", "ahead", "is_done"])
    (h_lf : Has K mg "least_found" sLf ["froms", "goals", "spare"])
    (h_ll : Has K mg "least_legs" sLl ["froms", "goals", "spare"])
    (h_lp : Has K mg "least_price" sLp ["froms", "goals", "spare"])
    (h_gd : Has K mg "gained" sGd ["spare", "legs", "gain"])
    (h_ed : Has K mg "edges_of" sEd ["spare", "legs"])
    (h_le : Has K mg "led_on" sLe ["edges", "many"])
    (h_go : Has K mg "gain_of" sGo ["froms", "goals", "spare", "legs"])
    (h_gt : Has K mg "gained_often" sGt ["froms", "goals", "spare", "legs"])
    (h_po : Has K mg "potentials" sPo ["froms", "goals", "spare", "legs"])
    (h_ba : Has K mg "_law_bag" sBa ["_law_script"])
    (h_ta : Has K mg "_law_take" sTa ["_law_bag_here", "_law_many"])
    (h_mi : Has K mg "_law_mixed" sMi ["_law_bag_here", "_law_things"])
    (h_lq : Has K mg "_law_squared" sLq ["_law_one", "_law_other"])
    (h_dc : Has K mg "_law_do_cross" sDc ["_law_leg", "_law_other"])
    (h_fc : Has K mg "_law_first_crossing" sFc ["_law_legs"])
    (h_uc : Has K mg "_law_uncrossed" sUc ["_law_legs"])
    (h_lr : Has K mg "_law_price" sLr ["_law_legs"])
    (h_ii : Has K mg "_law_is_int" sIi ["_law_thing"])
    (h_sc : Has K mg "_law_some_choice" sSc ["_law_bag_here", "_law_froms", "_law_goals", "_law_spare"])
    (h_ic : Has K mg "_law_is_column" sIc ["_law_thing"])
    (h_ich : Has K mg "_law_is_choice" sIch ["_law_froms", "_law_goals", "_law_spare", "_law_thing"])
    (h_ip : Has K mg "_law_is_paper" sIp ["_law_froms", "_law_goals", "_law_spare", "_law_legs", "_law_thing"])
    (h_wt : Has K mg "_law_wide_task" sWt ["_law_bag_here"])
    (h_law : Has K mg "law" sLaw ["_law_script"])
    (B : Bl mg) :
    ∃ fd : FuncData, (∀ (s : Shared) (v : Value), BindsTo s fd ⟨[v], []⟩ [("_law_script", v)]) ∧ ∀ base : Heap, K.In base → base.Ns mainGlobals mg → FnOk l.prog w K mg base CX0 7 fa fd ["_law_script"] (spLaw K) := by
  obtain ⟨f, fd, F, _, g⟩ := h_law
  cases hfa.symm.trans g
  refine ⟨fd, fun s v => ?_, fun base _ _ => ?_⟩
  · obtain ⟨oc, od, kV, doc, pm, an, cdv, ct, osl, rfl, lk, hc⟩ := F.ex
    exact .of_eq rfl
  · have Ksq := ok_sq (P := l.prog) (w := w) (base := base) h_sq
    have Ksw := ok_sw h_sw Ksq
    have Kpr := ok_pr h_pr B Ksw
    have Kfs := ok_fs (P := l.prog) (w := w) (base := base) h_fs B
    have Kco := ok_co h_co B Ksq
    have Kos := ok_os (P := l.prog) (w := w) (base := base) h_os B
    have Kma := ok_ma h_ma B Kos
    have Klf := ok_lf h_lf B Kco Kma
    have Kll := ok_ll h_ll B Klf
    have Klp := ok_lp h_lp Kll Kpr
    have Ked := ok_ed h_ed B Ksq Kfs
    have Kle := ok_le (P := l.prog) (w := w) (base := base) h_le B
    have Kgo := ok_go h_go B Ked Kle
    have Kgd := ok_gd (P := l.prog) (w := w) (base := base) h_gd B
    have Kgt := ok_gt h_gt Kgo Kgd
    have Kpo := ok_po h_po B Kpr Klp Klf Kco
    have Kba := ok_ba (P := l.prog) (w := w) (base := base) h_ba B
    have Kta := ok_ta (P := l.prog) (w := w) (base := base) h_ta B
    have Kmi := ok_mi h_mi B Kta
    have Klq := ok_lq (P := l.prog) (w := w) (base := base) h_lq
    have Kdc := ok_dc (P := l.prog) (w := w) (base := base) h_dc
    have Kfc := ok_fc h_fc B Kdc
    have Kuc := ok_uc h_uc B Kfc
    have Klr := ok_lr h_lr B Klq
    have Kii := ok_ii (P := l.prog) (w := w) (base := base) h_ii B
    have Kic := ok_ic h_ic B Kii
    have Kich := ok_ich h_ich B Kic
    have Kip := ok_ip h_ip B Kii Klq
    have Ksc := ok_sc h_sc B Kmi
    have Kwt := ok_wt h_wt B Kta
    exact ok_law F B Kba Kwt Kll Kich Kfc Klr Kpo Klp Kip Ksc Kuc Kgt
end Lo

open PySem PySem.W PyProof.Rows in
set_option maxRecDepth 100000 in
set_option maxHeartbeats 0 in
theorem PySem.Challenge.cw_lampsaloft_k27_whole_many_carriers_holds : PySem.Challenge.rw_lampsaloft_k27_whole_many_carriers.Holds := by
  w_on; o_law; k_head; (case hw => w_witness2)
  k_fill
  refine L2.walk_of (l := PySem.Challenge.rw_lampsaloft_k27_whole_many_carriers) (n := 63) (k := 7) (x := "_law_script") (CX := fun _ => L2.CX0) (sp := fun w => Lo.spLaw _) rfl (by decide) rfl ⟨rfl, by decide, by decide⟩ (fun w h Y => PySem.W.kIn_of Y) ?F (fun _ _ a ns hl _ hS => ⟨a, ns, rfl, hS, hl, fun _ => rfl⟩) fun _ _ _ _ _ z => z
  case F =>
    intro w mg fa h KX G hmg
    refine Lo.all_mk KX G hmg ?h_sq ?h_sw ?h_pr ?h_fs ?h_co ?h_ma ?h_os ?h_lf ?h_ll ?h_lp ?h_gd ?h_ed ?h_le ?h_go ?h_gt ?h_po ?h_ba ?h_ta ?h_mi ?h_lq ?h_dc ?h_fc ?h_uc ?h_lr ?h_ii ?h_sc ?h_ic ?h_ich ?h_ip ?h_wt ?h_law ?bl
    (case h_sq => refine' Lo.Has.of KX G (fun _ _ F => Lo.b_sq F) ?a ?l ?c ?k; (case a => k_is); (case l => k_is); (case c => k_is); (case k => k_is))
    (case h_sw => refine' Lo.Has.of KX G (fun _ _ F => Lo.b_sw F) ?a ?l ?c ?k; (case a => k_is); (case l => k_is); (case c => k_is); (case k => k_is))
    (case h_pr => refine' Lo.Has.of KX G (fun _ _ F => Lo.b_pr F) ?a ?l ?c ?k; (case a => k_is); (case l => k_is); (case c => k_is); (case k => k_is))
    (case h_fs => refine' Lo.Has.of KX G (fun _ _ F => Lo.b_fs F) ?a ?l ?c ?k; (case a => k_is); (case l => k_is); (case c => k_is); (case k => k_is))
    (case h_co => refine' Lo.Has.of KX G (fun _ _ F => Lo.b_co F) ?a ?l ?c ?k; (case a => k_is); (case l => k_is); (case c => k_is); (case k => k_is))
    (case h_ma => refine' Lo.Has.of KX G (fun _ _ F => Lo.b_ma F) ?a ?l ?c ?k; (case a => k_is); (case l => k_is); (case c => k_is); (case k => k_is))
    (case h_os => refine' Lo.Has.of KX G (fun _ _ F => Lo.b_os F) ?a ?l ?c ?k; (case a => k_is); (case l => k_is); (case c => k_is); (case k => k_is))
    (case h_lf => refine' Lo.Has.of KX G (fun _ _ F => Lo.b_lf F) ?a ?l ?c ?k; (case a => k_is); (case l => k_is); (case c => k_is); (case k => k_is))
    (case h_ll => refine' Lo.Has.of KX G (fun _ _ F => Lo.b_ll F) ?a ?l ?c ?k; (case a => k_is); (case l => k_is); (case c => k_is); (case k => k_is))
    (case h_lp => refine' Lo.Has.of KX G (fun _ _ F => Lo.b_lp F) ?a ?l ?c ?k; (case a => k_is); (case l => k_is); (case c => k_is); (case k => k_is))
    (case h_gd => refine' Lo.Has.of KX G (fun _ _ F => Lo.b_gd F) ?a ?l ?c ?k; (case a => k_is); (case l => k_is); (case c => k_is); (case k => k_is))
    (case h_ed => refine' Lo.Has.of KX G (fun _ _ F => Lo.b_ed F) ?a ?l ?c ?k; (case a => k_is); (case l => k_is); (case c => k_is); (case k => k_is))
    (case h_le => refine' Lo.Has.of KX G (fun _ _ F => Lo.b_le F) ?a ?l ?c ?k; (case a => k_is); (case l => k_is); (case c => k_is); (case k => k_is))
    (case h_go => refine' Lo.Has.of KX G (fun _ _ F => Lo.b_go F) ?a ?l ?c ?k; (case a => k_is); (case l => k_is); (case c => k_is); (case k => k_is))
    (case h_gt => refine' Lo.Has.of KX G (fun _ _ F => Lo.b_gt F) ?a ?l ?c ?k; (case a => k_is); (case l => k_is); (case c => k_is); (case k => k_is))
    (case h_po => refine' Lo.Has.of KX G (fun _ _ F => Lo.b_po F) ?a ?l ?c ?k; (case a => k_is); (case l => k_is); (case c => k_is); (case k => k_is))
    (case h_ba => refine' Lo.Has.of KX G (fun _ _ F => Lo.b_ba F) ?a ?l ?c ?k; (case a => k_is); (case l => k_is); (case c => k_is); (case k => k_is))
    (case h_ta => refine' Lo.Has.of KX G (fun _ _ F => Lo.b_ta F) ?a ?l ?c ?k; (case a => k_is); (case l => k_is); (case c => k_is); (case k => k_is))
    (case h_mi => refine' Lo.Has.of KX G (fun _ _ F => Lo.b_mi F) ?a ?l ?c ?k; (case a => k_is); (case l => k_is); (case c => k_is); (case k => k_is))
    (case h_lq => refine' Lo.Has.of KX G (fun _ _ F => Lo.b_lq F) ?a ?l ?c ?k; (case a => k_is); (case l => k_is); (case c => k_is); (case k => k_is))
    (case h_dc => refine' Lo.Has.of KX G (fun _ _ F => Lo.b_dc F) ?a ?l ?c ?k; (case a => k_is); (case l => k_is); (case c => k_is); (case k => k_is))
    (case h_fc => refine' Lo.Has.of KX G (fun _ _ F => Lo.b_fc F) ?a ?l ?c ?k; (case a => k_is); (case l => k_is); (case c => k_is); (case k => k_is))
    (case h_uc => refine' Lo.Has.of KX G (fun _ _ F => Lo.b_uc F) ?a ?l ?c ?k; (case a => k_is); (case l => k_is); (case c => k_is); (case k => k_is))
    (case h_lr => refine' Lo.Has.of KX G (fun _ _ F => Lo.b_lr F) ?a ?l ?c ?k; (case a => k_is); (case l => k_is); (case c => k_is); (case k => k_is))
    (case h_ii => refine' Lo.Has.of KX G (fun _ _ F => Lo.b_ii F) ?a ?l ?c ?k; (case a => k_is); (case l => k_is); (case c => k_is); (case k => k_is))
    (case h_sc => refine' Lo.Has.of KX G (fun _ _ F => Lo.b_sc F) ?a ?l ?c ?k; (case a => k_is); (case l => k_is); (case c => k_is); (case k => k_is))
    (case h_ic => refine' Lo.Has.of KX G (fun _ _ F => Lo.b_ic F) ?a ?l ?c ?k; (case a => k_is); (case l => k_is); (case c => k_is); (case k => k_is))
    (case h_ich => refine' Lo.Has.of KX G (fun _ _ F => Lo.b_ich F) ?a ?l ?c ?k; (case a => k_is); (case l => k_is); (case c => k_is); (case k => k_is))
    (case h_ip => refine' Lo.Has.of KX G (fun _ _ F => Lo.b_ip F) ?a ?l ?c ?k; (case a => k_is); (case l => k_is); (case c => k_is); (case k => k_is))
    (case h_wt => refine' Lo.Has.of KX G (fun _ _ F => Lo.b_wt F) ?a ?l ?c ?k; (case a => k_is); (case l => k_is); (case c => k_is); (case k => k_is))
    (case h_law => refine' Lo.Has.of KX G (fun _ _ F => Lo.b_law F) ?a ?l ?c ?k; (case a => k_is); (case l => k_is); (case c => k_is); (case k => k_is))
    (case bl => refine' Lo.Bl.of KX G ?z0 ?z1 ?z2 ?z3 ?z4 ?z5 ?z6 ?z7 ?z8 ?z9 ?z10 ?z11 ?z12 ?z13 ?z14; (case z0 => k_is); (case z1 => k_is); (case z2 => k_is); (case z3 => k_is); (case z4 => k_is); (case z5 => k_is); (case z6 => k_is); (case z7 => k_is); (case z8 => k_is); (case z9 => k_is); (case z10 => k_is); (case z11 => k_is); (case z12 => k_is); (case z13 => k_is); (case z14 => k_is))
