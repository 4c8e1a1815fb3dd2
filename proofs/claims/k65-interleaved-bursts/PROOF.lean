import PyProof.Rows.All
import Wide.All
import OpenK.AllK
import Wide.FinOn
import HandS.ForMost
import HandS.Exc
import HandS.TryOnly
import HandS.ExcOwn
import HandS.WordsExc
import HandS.Conv
import HandS.Zip
import HandS.Deep
import HandS.IsInst
import HandS.ExcIs
import KE.KEqDeep
import KE.GoesComp
import KE.GoesRaise
import KE.KAsSuite
import HandS.Defaults
import HandS.Rev
import PySem.Challenge.RW_nearestword_k65_whole_interleaved_bursts
set_option Elab.async false
set_option linter.all false
/-! Polynomials as lists (the constant first) over a finite field: evaluation, trimming, sums, products, division, roots. Plain Lean. -/
namespace GP
variable {α : Type} [Lean.Grind.Field α] [DecidableEq α]

def loopN {σ : Type} (f : Nat → σ → σ) : Nat → σ → σ
  | 0, s => s
  | n + 1, s => f n (loopN f n s)

/-- Horner -/
def ev (P : List α) (x : α) : α := P.foldr (fun c r => r * x + c) 0
theorem ev_nil (x : α) : ev [] x = 0 := rfl
theorem ev_cons (c : α) (P : List α) (x : α) : ev (c :: P) x = ev P x * x + c := rfl

theorem ev_append (P R : List α) (x : α) : ev (P ++ R) x = ev P x + x ^ P.length * ev R x := by
  induction P with
  | nil => simp only [List.nil_append, ev_nil, List.length_nil]; grind
  | cons c P ih => simp only [List.cons_append, ev_cons, ih, List.length_cons]; grind

theorem ev_snoc (P : List α) (c x : α) : ev (P ++ [c]) x = ev P x + c * x ^ P.length := by
  rw [ev_append, ev_cons, ev_nil]; grind

/-- the polynomial of a list of coefficients -/
def trim : List α → List α
  | [] => []
  | a :: t => if trim t = [] ∧ a = 0 then [] else a :: trim t

theorem trim_nil : trim ([] : List α) = [] := rfl
theorem trim_cons (a : α) (t : List α) : trim (a :: t) = if trim t = [] ∧ a = 0 then [] else a :: trim t := rfl

theorem trim_snoc_zero (P : List α) : trim (P ++ [0]) = trim P := by
  induction P with
  | nil => simp [trim]
  | cons a t ih => simp only [List.cons_append, trim_cons, ih]
theorem trim_snoc_ne (P : List α) {c : α} (h : c ≠ 0) : trim (P ++ [c]) = P ++ [c] := by
  induction P with
  | nil => simp [trim, h]
  | cons a t ih => simp only [List.cons_append, trim_cons, ih]; simp
theorem ev_trim (P : List α) (x : α) : ev (trim P) x = ev P x := by
  induction P with
  | nil => rfl
  | cons a t ih =>
    rw [trim_cons]
    split
    · rename_i h
      rw [ev_cons, ← ih, h.1, h.2, ev_nil]; grind
    · rw [ev_cons, ev_cons, ih]
theorem cf_trim (P : List α) (k : Nat) : (trim P).getD k 0 = P.getD k 0 := by
  induction P generalizing k with
  | nil => rfl
  | cons a t ih =>
    rw [trim_cons]
    split
    · rename_i h
      cases k with
      | zero => simp [h.2]
      | succ k =>
        have := ih k
        rw [h.1] at this
        simpa using this
    · cases k with
      | zero => simp
      | succ k => simpa using ih k
theorem trim_trim (P : List α) : trim (trim P) = trim P := by
  induction P with
  | nil => rfl
  | cons a t ih =>
    rw [trim_cons]
    split
    · rfl
    · rename_i h
      rw [trim_cons, ih, if_neg h]
def Tr (P : List α) : Prop := trim P = P
theorem Tr.of_trim (P : List α) : Tr (trim P) := trim_trim P
theorem Tr.nil : Tr ([] : List α) := rfl
theorem trim_length_le (P : List α) : (trim P).length ≤ P.length := by
  induction P with
  | nil => exact Nat.le_refl _
  | cons a t ih =>
    rw [trim_cons]
    split
    · exact Nat.zero_le _
    · simp only [List.length_cons]; omega
theorem trim_eq_nil {P : List α} (h : ∀ k, P.getD k 0 = 0) : trim P = [] := by
  induction P with
  | nil => rfl
  | cons a t ih =>
    have h0 : a = 0 := by simpa using h 0
    have ht := ih fun k => by simpa using h (k + 1)
    rw [trim_cons, if_pos ⟨ht, h0⟩]
theorem trim_length_le_of {P : List α} {n : Nat} (h : ∀ k, n ≤ k → P.getD k 0 = 0) : (trim P).length ≤ n := by
  induction P generalizing n with
  | nil => exact Nat.zero_le _
  | cons a t ih =>
    cases n with
    | zero =>
      rw [trim_eq_nil fun k => h k (Nat.zero_le _)]
      exact Nat.le_refl _
    | succ n =>
      have ht := ih (n := n) fun k hk => by simpa using h (k + 1) (by omega)
      rw [trim_cons]
      split
      · exact Nat.zero_le _
      · simp only [List.length_cons]; omega
theorem snoc_of {P : List α} {n : Nat} (h : P.length = n + 1) : ∃ R c, P = R ++ [c] ∧ R.length = n ∧ P.getD n 0 = c := by
  have hne : P ≠ [] := by intro e; rw [e] at h; cases h
  refine ⟨P.dropLast, P.getLast hne, (List.dropLast_concat_getLast hne).symm, by simp [h], ?_⟩
  rw [List.getLast_eq_getElem, List.getD_eq_getElem?_getD, List.getElem?_eq_getElem (by omega)]
  simp [h]
theorem tr_last {P : List α} {n : Nat} (t : Tr P) (h : P.length = n + 1) : P.getD n 0 ≠ 0 := by
  obtain ⟨R, c, e, hl, hc⟩ := snoc_of h
  rw [hc]
  intro z
  have t' : trim P = P := t
  rw [e, z, trim_snoc_zero] at t'
  have := trim_length_le R
  rw [t'] at this
  simp only [List.length_append, List.length_cons, List.length_nil] at this
  omega
theorem tr_of_last {P : List α} {n : Nat} (h : P.length = n + 1) (hc : P.getD n 0 ≠ 0) : Tr P := by
  obtain ⟨R, c, e, hl, hc'⟩ := snoc_of h
  rw [hc'] at hc
  show trim P = P
  rw [e]
  exact trim_snoc_ne R hc
theorem cf_out {P : List α} {k : Nat} (h : P.length ≤ k) : P.getD k 0 = 0 := by
  rw [List.getD_eq_getElem?_getD, List.getElem?_eq_none h]
  rfl
/-- the length of a trimmed list, by its coefficients -/
theorem trim_length_eq {P : List α} {n : Nat} (h0 : P.getD n 0 ≠ 0) (h : ∀ k, n < k → P.getD k 0 = 0) : (trim P).length = n + 1 := by
  have h1 : (trim P).length ≤ n + 1 := trim_length_le_of fun k hk => h k (by omega)
  by_cases h2 : (trim P).length ≤ n
  · have := cf_out h2
    rw [cf_trim] at this
    exact absurd this h0
  · omega
theorem tr_ext {P R : List α} (hP : Tr P) (hR : Tr R) (h : ∀ k, P.getD k 0 = R.getD k 0) : P = R := by
  have key : ∀ {P R : List α}, Tr P → Tr R → (∀ k, P.getD k 0 = R.getD k 0) → P.length ≤ R.length := by
    intro P R hP hR h
    have : (trim P).length ≤ R.length := trim_length_le_of fun k hk => by rw [h k]; exact cf_out hk
    rw [show trim P = P from hP] at this
    exact this
  have hl : P.length = R.length := Nat.le_antisymm (key hP hR h) (key hR hP fun k => (h k).symm)
  refine List.ext_getElem hl fun k h1 h2 => ?_
  have := h k
  rw [List.getD_eq_getElem?_getD, List.getD_eq_getElem?_getD, List.getElem?_eq_getElem h1, List.getElem?_eq_getElem h2] at this
  simpa using this

/-! ### sums -/
def sm (f : Nat → α) : Nat → α
  | 0 => 0
  | n + 1 => sm f n + f n
theorem sm_add (f g : Nat → α) (n : Nat) : sm (fun k => f k + g k) n = sm f n + sm g n := by
  induction n with
  | zero => simp only [sm]; grind
  | succ n ih => simp only [sm, ih]; grind
theorem sm_sub (f g : Nat → α) (n : Nat) : sm (fun k => f k - g k) n = sm f n - sm g n := by
  induction n with
  | zero => simp only [sm]; grind
  | succ n ih => simp only [sm, ih]; grind
theorem sm_mul (f : Nat → α) (c : α) (n : Nat) : sm (fun k => f k * c) n = sm f n * c := by
  induction n with
  | zero => simp only [sm]; grind
  | succ n ih => simp only [sm, ih]; grind
theorem sm_congr {f g : Nat → α} {n : Nat} (h : ∀ k, k < n → f k = g k) : sm f n = sm g n := by
  induction n with
  | zero => rfl
  | succ n ih => simp only [sm, ih fun k hk => h k (by omega), h n (by omega)]
theorem sm_more {f : Nat → α} {n m : Nat} (hm : n ≤ m) (h : ∀ k, n ≤ k → f k = 0) : sm f m = sm f n := by
  induction m with
  | zero =>
    have : n = 0 := by omega
    rw [this]
  | succ m ih =>
    by_cases e : n = m + 1
    · rw [e]
    · simp only [sm, ih (by omega), h m (by omega)]; grind
theorem ev_sm (P : List α) (x : α) : ev P x = sm (fun k => P.getD k 0 * x ^ k) P.length := by
  suffices h : ∀ n, n ≤ P.length → ev (P.take n) x = sm (fun k => P.getD k 0 * x ^ k) n by
    have := h P.length (Nat.le_refl _)
    rwa [List.take_length] at this
  intro n
  induction n with
  | zero => intro _; rfl
  | succ n ih =>
    intro hn
    rw [List.take_add_one, List.getElem?_eq_getElem (by omega)]
    simp only [Option.toList_some, ev_snoc, sm, ih (by omega), List.length_take]
    rw [Nat.min_eq_left (by omega), List.getD_eq_getElem?_getD, List.getElem?_eq_getElem (by omega)]
    rfl
theorem ev_sm_of (P : List α) (x : α) {n : Nat} (h : P.length ≤ n) : ev P x = sm (fun k => P.getD k 0 * x ^ k) n := by
  rw [ev_sm, sm_more h]
  intro k hk
  rw [cf_out hk]; grind
theorem ev_congr {P R : List α} (h : ∀ k, P.getD k 0 = R.getD k 0) (x : α) : ev P x = ev R x := by
  rw [ev_sm_of P x (Nat.le_max_left P.length R.length), ev_sm_of R x (Nat.le_max_right P.length R.length)]
  exact sm_congr fun k _ => by rw [h k]
theorem cf_map_range (f : Nat → α) (n k : Nat) : ((List.range n).map f).getD k 0 = if k < n then f k else 0 := by
  rw [List.getD_eq_getElem?_getD, List.getElem?_map]
  by_cases h : k < n
  · rw [List.getElem?_range h, if_pos h]; rfl
  · rw [List.getElem?_eq_none (by simpa using h), if_neg h]; rfl
theorem ev_map_range (f : Nat → α) (n : Nat) (x : α) : ev ((List.range n).map f) x = sm (fun k => f k * x ^ k) n := by
  rw [ev_sm_of _ x (n := n) (by simp)]
  exact sm_congr fun k hk => by rw [cf_map_range, if_pos hk]

/-! ### sums, differences, multiples -/
def padd (a b : List α) : List α := trim ((List.range (max a.length b.length)).map fun k => a.getD k 0 + b.getD k 0)
def psub (a b : List α) : List α := trim ((List.range (max a.length b.length)).map fun k => a.getD k 0 - b.getD k 0)
def pscale (a : List α) (c : α) : List α := trim (a.map (· * c))
theorem cf_padd (a b : List α) (k : Nat) : (padd a b).getD k 0 = a.getD k 0 + b.getD k 0 := by
  rw [padd, cf_trim, cf_map_range]
  split
  · rfl
  · rw [cf_out (P := a) (by omega), cf_out (P := b) (by omega)]; grind
theorem cf_psub (a b : List α) (k : Nat) : (psub a b).getD k 0 = a.getD k 0 - b.getD k 0 := by
  rw [psub, cf_trim, cf_map_range]
  split
  · rfl
  · rw [cf_out (P := a) (by omega), cf_out (P := b) (by omega)]; grind
theorem cf_map_mul (a : List α) (c : α) (k : Nat) : (a.map (· * c)).getD k 0 = a.getD k 0 * c := by
  rw [List.getD_eq_getElem?_getD, List.getD_eq_getElem?_getD, List.getElem?_map]
  cases a[k]? with
  | none => simp only [Option.map_none, Option.getD_none]; grind
  | some v => rfl
theorem cf_pscale (a : List α) (c : α) (k : Nat) : (pscale a c).getD k 0 = a.getD k 0 * c := by
  rw [pscale, cf_trim, cf_map_mul]
theorem ev_padd (a b : List α) (x : α) : ev (padd a b) x = ev a x + ev b x := by
  rw [padd, ev_trim, ev_map_range, ev_sm_of a x (Nat.le_max_left a.length b.length), ev_sm_of b x (Nat.le_max_right a.length b.length), ← sm_add]
  exact sm_congr fun k _ => by grind
theorem ev_psub (a b : List α) (x : α) : ev (psub a b) x = ev a x - ev b x := by
  rw [psub, ev_trim, ev_map_range, ev_sm_of a x (Nat.le_max_left a.length b.length), ev_sm_of b x (Nat.le_max_right a.length b.length), ← sm_sub]
  exact sm_congr fun k _ => by grind
theorem ev_pscale (a : List α) (c x : α) : ev (pscale a c) x = ev a x * c := by
  rw [pscale, ev_trim, ev_sm, List.length_map, ev_sm a, ← sm_mul]
  exact sm_congr fun k _ => by rw [cf_map_mul]; grind
theorem tr_padd (a b : List α) : Tr (padd a b) := Tr.of_trim _
theorem tr_psub (a b : List α) : Tr (psub a b) := Tr.of_trim _
theorem tr_pscale (a : List α) (c : α) : Tr (pscale a c) := Tr.of_trim _
theorem padd_length (a b : List α) : (padd a b).length ≤ max a.length b.length := by
  refine Nat.le_trans (trim_length_le _) ?_
  simp
theorem psub_length (a b : List α) : (psub a b).length ≤ max a.length b.length := by
  refine Nat.le_trans (trim_length_le _) ?_
  simp
theorem pscale_length (a : List α) (c : α) : (pscale a c).length ≤ a.length := by
  refine Nat.le_trans (trim_length_le _) ?_
  simp
theorem mul_ne {a b : α} (ha : a ≠ 0) (hb : b ≠ 0) : a * b ≠ 0 := by
  intro h
  have h1 := Lean.Grind.Field.mul_inv_cancel ha
  apply hb
  have : b = (a * a⁻¹) * b := by rw [h1]; grind
  rw [this]
  have e : a * a⁻¹ * b = (a * b) * a⁻¹ := by grind
  rw [e, h]; grind
theorem pscale_length_eq {a : List α} {c : α} (ta : Tr a) (hc : c ≠ 0) : (pscale a c).length = a.length := by
  cases e : a.length with
  | zero =>
    have := pscale_length a c
    omega
  | succ n =>
    refine trim_length_eq (by rw [cf_map_mul]; exact mul_ne (tr_last ta e) hc) fun k hk => ?_
    rw [cf_map_mul, cf_out (by omega)]; grind

/-! ### one coefficient changed -/
theorem cf_set (r : List α) (t k : Nat) (v : α) (ht : t < r.length) : (r.set t v).getD k 0 = if k = t then v else r.getD k 0 := by
  rw [List.getD_eq_getElem?_getD, List.getElem?_set, List.getD_eq_getElem?_getD]
  by_cases h : t = k
  · subst h; simp [ht]
  · simp [h, Ne.symm h]
theorem ev_set (r : List α) (t : Nat) (v x : α) (ht : t < r.length) : ev (r.set t v) x = ev r x + (v - r.getD t 0) * x ^ t := by
  induction r generalizing t with
  | nil => simp at ht
  | cons a r ih =>
    cases t with
    | zero => simp only [List.set_cons_zero, ev_cons, List.getD_cons_zero]; grind
    | succ t =>
      have := ih t (by simpa using ht)
      simp only [List.set_cons_succ, ev_cons, List.getD_cons_succ, this]; grind

/-! ### products -/
def mulIn (a b : List α) (i : Nat) (n : Nat) (r : List α) : List α := loopN (fun j r => r.set (i + j) (r.getD (i + j) 0 + a.getD i 0 * b.getD j 0)) n r
def mulOut (a b : List α) (m : Nat) (r : List α) : List α := loopN (fun i r => mulIn a b i b.length r) m r
def pmul (a b : List α) : List α :=
  if a.length = 0 ∨ b.length = 0 then [] else trim (mulOut a b a.length (List.replicate (a.length + b.length - 1) 0))
theorem mulIn_length (a b : List α) (i n : Nat) (r : List α) : (mulIn a b i n r).length = r.length := by
  induction n with
  | zero => rfl
  | succ n ih =>
    show (List.set _ _ _).length = _
    rw [List.length_set]; exact ih
theorem mulOut_length (a b : List α) (m : Nat) (r : List α) : (mulOut a b m r).length = r.length := by
  induction m with
  | zero => rfl
  | succ m ih =>
    show (mulIn a b m b.length (mulOut a b m r)).length = _
    rw [mulIn_length, ih]
theorem ev_mulIn (a b : List α) (i n : Nat) (r : List α) (x : α) (h : i + n ≤ r.length) : ev (mulIn a b i n r) x = ev r x + a.getD i 0 * x ^ i * sm (fun j => b.getD j 0 * x ^ j) n := by
  induction n with
  | zero => simp only [mulIn, loopN, sm]; grind
  | succ n ih =>
    show ev (List.set (mulIn a b i n r) (i + n) _) x = _
    rw [ev_set _ _ _ _ (by rw [mulIn_length]; omega), ih (by omega)]
    simp only [sm]
    have e : x ^ (i + n) = x ^ i * x ^ n := by grind
    rw [e]
    show _ + ((mulIn a b i n r).getD (i + n) 0 + a.getD i 0 * b.getD n 0 - (mulIn a b i n r).getD (i + n) 0) * _ = _
    grind
theorem ev_mulOut (a b : List α) (m : Nat) (r : List α) (x : α) (h : m + b.length ≤ r.length + 1) : ev (mulOut a b m r) x = ev r x + sm (fun i => a.getD i 0 * x ^ i) m * ev b x := by
  induction m with
  | zero => simp only [mulOut, loopN, sm]; grind
  | succ m ih =>
    show ev (mulIn a b m b.length (mulOut a b m r)) x = _
    rw [ev_mulIn _ _ _ _ _ _ (by rw [mulOut_length]; omega), ih (by omega), ← ev_sm]
    simp only [sm]; grind
theorem ev_zeros (n : Nat) (x : α) : ev (List.replicate n (0 : α)) x = 0 := by
  induction n with
  | zero => rfl
  | succ n ih => rw [List.replicate_succ, ev_cons, ih]; grind
theorem cf_zeros (n k : Nat) : (List.replicate n (0 : α)).getD k 0 = 0 := by
  rw [List.getD_eq_getElem?_getD, List.getElem?_replicate]
  split <;> rfl
theorem ev_pmul (a b : List α) (x : α) : ev (pmul a b) x = ev a x * ev b x := by
  unfold pmul
  split
  · rename_i h
    rcases h with h | h
    · rw [List.length_eq_zero_iff.mp h]; simp only [ev_nil]; grind
    · rw [List.length_eq_zero_iff.mp h]; simp only [ev_nil]; grind
  · rename_i h
    rw [ev_trim, ev_mulOut _ _ _ _ _ (by rw [List.length_replicate]; omega), ← ev_sm, ev_zeros]; grind
theorem cf_mulIn (a b : List α) (i n : Nat) (r : List α) (t : Nat) (h : i + n ≤ r.length) (ht : t < i ∨ i + n ≤ t) : (mulIn a b i n r).getD t 0 = r.getD t 0 := by
  induction n with
  | zero => rfl
  | succ n ih =>
    show (List.set (mulIn a b i n r) (i + n) _).getD t 0 = _
    rw [cf_set _ _ _ _ (by rw [mulIn_length]; omega), if_neg (by omega), ih (by omega) (by omega)]
theorem cf_mulOut (a b : List α) (m : Nat) (r : List α) (t : Nat) (h : m + b.length ≤ r.length + 1) (ht : m + b.length ≤ t + 1) : (mulOut a b m r).getD t 0 = r.getD t 0 := by
  induction m with
  | zero => rfl
  | succ m ih =>
    show (mulIn a b m b.length (mulOut a b m r)).getD t 0 = _
    rw [cf_mulIn _ _ _ _ _ _ (by rw [mulOut_length]; omega) (by omega), ih (by omega) (by omega)]
theorem pmul_length {a b : List α} (ta : Tr a) (tb : Tr b) (ha : a ≠ []) (hb : b ≠ []) : (pmul a b).length + 1 = a.length + b.length := by
  obtain ⟨m, hm⟩ : ∃ m, a.length = m + 1 := ⟨a.length - 1, by have := List.length_pos_iff.mpr ha; omega⟩
  obtain ⟨n, hn⟩ : ∃ n, b.length = n + 1 := ⟨b.length - 1, by have := List.length_pos_iff.mpr hb; omega⟩
  unfold pmul
  rw [if_neg (by omega)]
  have e : (trim (mulOut a b a.length (List.replicate (a.length + b.length - 1) 0))).length = (m + n) + 1 := by
    refine trim_length_eq ?_ fun k hk => ?_
    · rw [hm]
      show (mulIn a b m b.length (mulOut a b m _)).getD _ 0 ≠ 0
      rw [hn]
      show (List.set (mulIn a b m n _) (m + n) _).getD _ 0 ≠ 0
      rw [cf_set _ _ _ _ (by rw [mulIn_length, mulOut_length, List.length_replicate]; omega), if_pos rfl]
      show (mulIn a b m n (mulOut a b m _)).getD (m + n) 0 + _ ≠ 0
      rw [cf_mulIn _ _ _ _ _ _ (by rw [mulOut_length, List.length_replicate]; omega) (by omega),
        cf_mulOut _ _ _ _ _ (by rw [List.length_replicate]; omega) (by omega), cf_zeros]
      have := mul_ne (tr_last ta hm) (tr_last tb hn)
      intro z
      apply this
      rw [← z]; grind
    · refine cf_out ?_
      rw [mulOut_length, List.length_replicate]; omega
  rw [e]; omega
theorem tr_pmul (a b : List α) : Tr (pmul a b) := by
  unfold pmul
  split
  · rfl
  · exact Tr.of_trim _
theorem pmul_length_le (a b : List α) : (pmul a b).length ≤ a.length + b.length - 1 := by
  unfold pmul
  split
  · exact Nat.zero_le _
  · refine Nat.le_trans (trim_length_le _) ?_
    rw [mulOut_length, List.length_replicate]
    exact Nat.le_refl _
theorem pmul_nil_left (b : List α) : pmul [] b = [] := by unfold pmul; simp
theorem pmul_nil_right (a : List α) : pmul a [] = [] := by unfold pmul; simp
end GP

set_option Elab.async false
set_option linter.all false
/-! Division, roots, interpolation, the key equation, the decoder. Plain Lean. -/
namespace GP
variable {α : Type} [Lean.Grind.Field α] [DecidableEq α]

/-! ### division -/
def divIn (b : List α) (factor : α) (shift n : Nat) (r : List α) : List α := loopN (fun k r => r.set (shift + k) (r.getD (shift + k) 0 - factor * b.getD k 0)) n r
theorem divIn_length (b : List α) (f : α) (s n : Nat) (r : List α) : (divIn b f s n r).length = r.length := by
  induction n with
  | zero => rfl
  | succ n ih =>
    show (List.set _ _ _).length = _
    rw [List.length_set]; exact ih
theorem ev_divIn (b : List α) (f : α) (s n : Nat) (r : List α) (x : α) (h : s + n ≤ r.length) : ev (divIn b f s n r) x = ev r x - f * x ^ s * sm (fun j => b.getD j 0 * x ^ j) n := by
  induction n with
  | zero => simp only [divIn, loopN, sm]; grind
  | succ n ih =>
    show ev (List.set (divIn b f s n r) (s + n) _) x = _
    rw [ev_set _ _ _ _ (by rw [divIn_length]; omega), ih (by omega)]
    simp only [sm]
    have e : x ^ (s + n) = x ^ s * x ^ n := by grind
    rw [e]
    show _ + ((divIn b f s n r).getD (s + n) 0 - f * b.getD n 0 - (divIn b f s n r).getD (s + n) 0) * _ = _
    grind
theorem cf_divIn_out (b : List α) (f : α) (s n : Nat) (r : List α) (t : Nat) (h : s + n ≤ r.length) (ht : t < s ∨ s + n ≤ t) : (divIn b f s n r).getD t 0 = r.getD t 0 := by
  induction n with
  | zero => rfl
  | succ n ih =>
    show (List.set (divIn b f s n r) (s + n) _).getD t 0 = _
    rw [cf_set _ _ _ _ (by rw [divIn_length]; omega), if_neg (by omega), ih (by omega) (by omega)]
/-- one turn: t from 0, the shift is la - lb - t -/
def divTurn (b : List α) (lead : α) (top : Nat) (t : Nat) (s : List α × List α) : List α × List α :=
  (s.1.set (top - t) (s.2.getD (top - t + b.length - 1) 0 * lead), divIn b (s.2.getD (top - t + b.length - 1) 0 * lead) (top - t) b.length s.2)
def divLoop (a b : List α) (lead : α) (t : Nat) : List α × List α := loopN (divTurn b lead (a.length - b.length)) t (List.replicate (a.length + 1 - b.length) 0, a)
def pdiv (a b : List α) : List α × List α := (trim (divLoop a b (b.getD (b.length - 1) 0)⁻¹ (a.length + 1 - b.length)).1, trim (divLoop a b (b.getD (b.length - 1) 0)⁻¹ (a.length + 1 - b.length)).2)

structure DivInv (a b : List α) (t : Nat) (s : List α × List α) : Prop where
  ql : s.1.length = a.length + 1 - b.length
  rl : s.2.length = a.length
  ev : ∀ x, ev a x = ev s.1 x * ev b x + ev s.2 x
  q0 : ∀ k, k + t < a.length + 1 - b.length → s.1.getD k 0 = 0
  r0 : ∀ k, a.length ≤ k + t → s.2.getD k 0 = 0
  qt : 0 < t → s.1.getD (a.length - b.length) 0 = a.getD (a.length - 1) 0 * (b.getD (b.length - 1) 0)⁻¹
  r1 : t = 0 → s.2 = a

theorem divLoop_inv {a b : List α} (tb : Tr b) (hb : b ≠ []) : ∀ t, t ≤ a.length + 1 - b.length → DivInv a b t (divLoop a b (b.getD (b.length - 1) 0)⁻¹ t) := by
  have hl : 0 < b.length := List.length_pos_iff.mpr hb
  have hlast : b.getD (b.length - 1) 0 ≠ 0 := tr_last tb (by omega)
  have hinv := Lean.Grind.Field.mul_inv_cancel hlast
  intro t
  induction t with
  | zero =>
    intro _
    refine ⟨by show (List.replicate _ _).length = _; simp, rfl, fun x => ?_, fun k _ => cf_zeros _ _, fun k hk => (show a.getD k 0 = 0 from cf_out (by simpa using hk)), fun h => by omega, fun _ => rfl⟩
    show GP.ev a x = GP.ev (List.replicate _ 0) x * _ + GP.ev a x
    rw [ev_zeros]; grind
  | succ t ih =>
    intro ht
    have D := ih (by omega)
    have hs : divLoop a b (b.getD (b.length - 1) 0)⁻¹ (t + 1) = divTurn b (b.getD (b.length - 1) 0)⁻¹ (a.length - b.length) t (divLoop a b (b.getD (b.length - 1) 0)⁻¹ t) := rfl
    rw [hs]
    generalize divLoop a b (b.getD (b.length - 1) 0)⁻¹ t = s at D
    obtain ⟨ql, rl, hev, q0, r0, qt, r1⟩ := D
    generalize hS : a.length - b.length - t = S
    have hSl : S + b.length - 1 = a.length - 1 - t := by omega
    generalize hf : s.2.getD (S + b.length - 1) 0 * (b.getD (b.length - 1) 0)⁻¹ = f
    have e1 : divTurn b (b.getD (b.length - 1) 0)⁻¹ (a.length - b.length) t s = (s.1.set S f, divIn b f S b.length s.2) := by
      unfold divTurn; rw [hS, hf]
    rw [e1]
    have hSq : S < s.1.length := by omega
    have hSr : S + b.length ≤ s.2.length := by omega
    have hz : s.1.getD S 0 = 0 := q0 S (by omega)
    refine ⟨by simpa using ql, by show (divIn _ _ _ _ _).length = _; rw [divIn_length]; exact rl, fun x => ?_, fun k hk => ?_, fun k hk => ?_, fun _ => ?_, fun h => by omega⟩
    · show GP.ev a x = GP.ev (s.1.set S f) x * GP.ev b x + GP.ev (divIn b f S b.length s.2) x
      rw [ev_set _ _ _ _ hSq, ev_divIn _ _ _ _ _ _ hSr, ← ev_sm, hz, hev x]; grind
    · show (s.1.set S f).getD k 0 = 0
      rw [cf_set _ _ _ _ hSq, if_neg (by omega)]
      exact q0 k (by omega)
    · show (divIn b f S b.length s.2).getD k 0 = 0
      by_cases hk2 : a.length ≤ k + t
      · rw [cf_divIn_out _ _ _ _ _ _ hSr (by omega)]
        exact r0 k hk2
      · have ek : k = S + (b.length - 1) := by omega
        subst ek
        obtain ⟨n, hn⟩ : ∃ n, b.length = n + 1 := ⟨b.length - 1, by omega⟩
        rw [hn]
        show (List.set (divIn b f S n s.2) (S + n) ((divIn b f S n s.2).getD (S + n) 0 - f * b.getD n 0)).getD (S + (n + 1 - 1)) 0 = 0
        rw [cf_set _ _ _ _ (by rw [divIn_length]; omega), if_pos (by omega), cf_divIn_out _ _ _ _ _ _ (by omega) (by omega)]
        rw [hn] at hf hinv
        have e2 : S + (n + 1) - 1 = S + n := by omega
        have e3 : n + 1 - 1 = n := by omega
        rw [e2, e3] at hf
        rw [e3] at hinv
        rw [← hf]; grind
    · show (s.1.set S f).getD (a.length - b.length) 0 = _
      rw [cf_set _ _ _ _ hSq]
      by_cases h0 : t = 0
      · subst h0
        rw [if_pos (by omega), ← hf, r1 rfl, hSl]
        rfl
      · rw [if_neg (by omega)]
        exact qt (by omega)
section
variable {a b : List α}
theorem pdiv_ev (tb : Tr b) (hb : b ≠ []) (x : α) : ev a x = ev (pdiv a b).1 x * ev b x + ev (pdiv a b).2 x := by
  have D := divLoop_inv (a := a) tb hb _ (Nat.le_refl _)
  rw [pdiv, ev_trim, ev_trim]
  exact D.ev x
theorem pdiv_rest (tb : Tr b) (hb : b ≠ []) : (pdiv a b).2.length < b.length := by
  have D := divLoop_inv (a := a) tb hb _ (Nat.le_refl _)
  have hl : 0 < b.length := List.length_pos_iff.mpr hb
  have : (pdiv a b).2.length ≤ b.length - 1 := trim_length_le_of fun k hk => D.r0 k (by omega)
  omega
theorem pdiv_quot (ta : Tr a) (tb : Tr b) (hb : b ≠ []) (h : b.length ≤ a.length) : (pdiv a b).1.length = a.length + 1 - b.length := by
  have D := divLoop_inv (a := a) tb hb _ (Nat.le_refl _)
  have hl : 0 < b.length := List.length_pos_iff.mpr hb
  have hlast : b.getD (b.length - 1) 0 ≠ 0 := tr_last tb (by omega)
  have hla : a.getD (a.length - 1) 0 ≠ 0 := tr_last ta (by omega)
  have hinv := Lean.Grind.Field.mul_inv_cancel hlast
  have e : (pdiv a b).1.length = (a.length - b.length) + 1 := by
    refine trim_length_eq ?_ fun k hk => cf_out (by rw [D.ql]; omega)
    rw [D.qt (by omega)]
    refine mul_ne hla fun z => ?_
    rw [z] at hinv
    have h01 : (0 : α) ≠ 1 := Lean.Grind.Field.zero_ne_one
    apply h01
    rw [← hinv]; grind
  omega
theorem pdiv_quot_le : (pdiv a b).1.length ≤ a.length + 1 - b.length := by
  refine Nat.le_trans (trim_length_le _) ?_
  have : ∀ t, (divLoop a b (b.getD (b.length - 1) 0)⁻¹ t).1.length = a.length + 1 - b.length := by
    intro t
    induction t with
    | zero => show (List.replicate _ _).length = _; simp
    | succ t ih => show (List.set _ _ _).length = _; rw [List.length_set]; exact ih
  rw [this]
  exact Nat.le_refl _
theorem tr_pdiv1 : Tr (pdiv a b).1 := Tr.of_trim _
theorem tr_pdiv2 : Tr (pdiv a b).2 := Tr.of_trim _
end

/-! ### roots -/
def syn (x : α) : List α → List α
  | [] => []
  | [_] => []
  | _ :: c :: t => ev (c :: t) x :: syn x (c :: t)
theorem syn_length (x : α) : ∀ P : List α, (syn x P).length = P.length - 1
  | [] => rfl
  | [_] => rfl
  | _ :: c :: t => by
    have := syn_length x (c :: t)
    show (syn x (c :: t)).length + 1 = _
    rw [this]; simp
theorem ev_syn (x y : α) : ∀ P : List α, ev P y = (y - x) * ev (syn x P) y + ev P x
  | [] => by simp only [syn, ev_nil]; grind
  | [a] => by simp only [syn, ev_nil, ev_cons]; grind
  | a :: c :: t => by
    have := ev_syn x y (c :: t)
    show ev (a :: c :: t) y = (y - x) * ev (ev (c :: t) x :: syn x (c :: t)) y + ev (a :: c :: t) x
    rw [ev_cons a, ev_cons a, ev_cons (ev (c :: t) x), this]; grind
theorem syn_zero (x : α) : ∀ P : List α, (∀ k, (syn x P).getD k 0 = 0) → ev P x = 0 → ∀ k, P.getD k 0 = 0
  | [], _, _, k => rfl
  | [a], _, h, k => by
    rw [ev_cons, ev_nil] at h
    cases k with
    | zero => show a = 0; rw [← h]; grind
    | succ k => rfl
  | a :: c :: t, hs, h, k => by
    have h0 : ev (c :: t) x = 0 := hs 0
    have ih := syn_zero x (c :: t) (fun k => hs (k + 1)) h0
    rw [ev_cons, h0] at h
    cases k with
    | zero => show a = 0; rw [← h]; grind
    | succ k => exact ih k
theorem zero_of_mul {a b : α} (h : a * b = 0) (ha : a ≠ 0) : b = 0 := Classical.byContradiction fun hb => mul_ne ha hb h
/-- as many different roots as items: it is zero -/
theorem roots_zero : ∀ (xs : List α) (P : List α), P.length ≤ xs.length → xs.Nodup → (∀ x ∈ xs, ev P x = 0) → ∀ k, P.getD k 0 = 0
  | [], P, hl, _, _, k => by
    rw [List.length_eq_zero_iff.mp (Nat.le_zero.mp hl)]
    rfl
  | x :: xs, P, hl, hn, hr, k => by
    rw [List.nodup_cons] at hn
    have h0 := hr x List.mem_cons_self
    refine syn_zero x P (roots_zero xs (syn x P) (by rw [syn_length]; simp only [List.length_cons] at hl; omega) hn.2 fun y hy => ?_) h0 k
    have e := ev_syn x y P
    rw [hr y (List.mem_cons_of_mem _ hy), h0] at e
    refine zero_of_mul (a := y - x) (by rw [e]; grind) fun z => hn.1 ?_
    have : y = x := by
      have : y = (y - x) + x := by grind
      rw [this, z]; grind
    rw [← this]; exact hy

/-! ### the polynomial with these roots -/
def froots (xs : List α) : List α := xs.foldl (fun r x => pmul r [-x, 1]) [1]
theorem one_ne : (1 : α) ≠ 0 := fun h => Lean.Grind.Field.zero_ne_one h.symm
theorem tr_one : Tr ([1] : List α) := tr_of_last (n := 0) rfl one_ne
theorem tr_lin (c : α) : Tr ([c, 1] : List α) := tr_of_last (n := 1) rfl one_ne
theorem ev_lin (c x : α) : ev [c, 1] x = x + c := by simp only [ev_cons, ev_nil]; grind
structure FrInv (xs r : List α) : Prop where
  tr : Tr r
  len : r.length = xs.length + 1
  root : ∀ x ∈ xs, ev r x = 0
theorem froots_snoc (xs : List α) (x : α) : froots (xs ++ [x]) = pmul (froots xs) [-x, 1] := by
  unfold froots; rw [List.foldl_append]; rfl
theorem froots_take {xs : List α} {i : Nat} {x : α} (h : xs[i]? = some x) : froots (xs.take (i + 1)) = pmul (froots (xs.take i)) [-x, 1] := by
  rw [List.take_add_one, h]; exact froots_snoc _ _
theorem froots_inv (xs : List α) : FrInv xs (froots xs) := by
  suffices h : ∀ n, n ≤ xs.length → FrInv (xs.take n) (froots (xs.take n)) by
    have := h xs.length (Nat.le_refl _)
    rwa [List.take_length] at this
  intro n
  induction n with
  | zero => intro _; exact ⟨tr_one, rfl, fun x hx => by simp at hx⟩
  | succ n ih =>
    intro hn
    obtain ⟨t, l, r⟩ := ih (by omega)
    have hx : xs[n]? = some xs[n] := List.getElem?_eq_getElem (by omega)
    rw [froots_take hx]
    have hne : froots (xs.take n) ≠ [] := fun z => by rw [z] at l; simp at l
    have e := pmul_length t (tr_lin (-xs[n])) hne (by simp)
    refine ⟨tr_pmul _ _, ?_, fun x hx' => ?_⟩
    · rw [l] at e
      simp only [List.length_take, List.length_cons, List.length_nil] at e ⊢
      omega
    · rw [ev_pmul, ev_lin]
      rw [List.take_add_one, hx] at hx'
      rcases List.mem_append.mp hx' with h | h
      · rw [r x h]; grind
      · have : x = xs[n] := by simpa using h
        rw [this]; grind

/-! ### interpolation -/
def part (xs : List α) (k : Nat) : List α := (pdiv (froots xs) [-(xs.getD k 0), 1]).1
def interpTurn (xs ys : List α) (k : Nat) (r : List α) : List α := padd r (pscale (part xs k) (ys.getD k 0 * (ev (part xs k) (xs.getD k 0))⁻¹))
def interp (xs ys : List α) : List α := loopN (interpTurn xs ys) xs.length []
theorem part_facts {xs : List α} (hn : xs.Nodup) {k : Nat} (hk : k < xs.length) :
    (part xs k).length = xs.length ∧ (∀ j, j < xs.length → j ≠ k → ev (part xs k) (xs.getD j 0) = 0) ∧ ev (part xs k) (xs.getD k 0) ≠ 0 := by
  obtain ⟨t, l, r⟩ := froots_inv xs
  have gd : ∀ j, j < xs.length → xs.getD j 0 ∈ xs := fun j hj => by
    rw [List.getD_eq_getElem?_getD, List.getElem?_eq_getElem hj]
    exact List.getElem_mem hj
  have ge : ∀ j (hj : j < xs.length), xs.getD j 0 = xs[j] := fun j hj => by
    rw [List.getD_eq_getElem?_getD, List.getElem?_eq_getElem hj]; rfl
  have tl := tr_lin (-(xs.getD k 0))
  have hql : (part xs k).length = xs.length := by
    unfold part
    rw [pdiv_quot t tl (by simp) (by rw [l]; show 2 ≤ _; omega), l]
    show xs.length + 1 + 1 - 2 = _; omega
  have hrl : (pdiv (froots xs) [-(xs.getD k 0), 1]).2.length < 2 := pdiv_rest tl (by simp)
  have hev : ∀ x, ev (froots xs) x = ev (part xs k) x * (x - xs.getD k 0) + ev (pdiv (froots xs) [-(xs.getD k 0), 1]).2 x := fun x => by
    have := pdiv_ev (a := froots xs) tl (by simp) x
    rw [ev_lin] at this
    rw [this]; unfold part; grind
  -- the rest is a constant, and zero
  have hconst : ∀ x, ev (pdiv (froots xs) [-(xs.getD k 0), 1]).2 x = (pdiv (froots xs) [-(xs.getD k 0), 1]).2.getD 0 0 := fun x => by
    generalize (pdiv (froots xs) [-(xs.getD k 0), 1]).2 = R at hrl
    match R, hrl with
    | [], _ => rfl
    | [c], _ => simp only [ev_cons, ev_nil, List.getD_cons_zero]; grind
    | _ :: _ :: _, h => simp at h; omega
  have h0 : (pdiv (froots xs) [-(xs.getD k 0), 1]).2.getD 0 0 = 0 := by
    have := hev (xs.getD k 0)
    rw [r _ (gd k hk), hconst] at this
    rw [this]; grind
  have hev2 : ∀ x, ev (froots xs) x = ev (part xs k) x * (x - xs.getD k 0) := fun x => by rw [hev x, hconst x, h0]; grind
  have hne : ∀ j, j < xs.length → j ≠ k → xs.getD j 0 - xs.getD k 0 ≠ 0 := fun j hj hjk z => by
    have : xs.getD j 0 = xs.getD k 0 := by
      have e : xs.getD j 0 = (xs.getD j 0 - xs.getD k 0) + xs.getD k 0 := by grind
      rw [e, z]; grind
    rw [ge j hj, ge k hk] at this
    exact hjk ((List.getElem_inj hn).mp this)
  have hz : ∀ j, j < xs.length → j ≠ k → ev (part xs k) (xs.getD j 0) = 0 := fun j hj hjk => by
    have := hev2 (xs.getD j 0)
    rw [r _ (gd j hj)] at this
    refine zero_of_mul (a := xs.getD j 0 - xs.getD k 0) ?_ (hne j hj hjk)
    have e : (xs.getD j 0 - xs.getD k 0) * ev (part xs k) (xs.getD j 0) = ev (part xs k) (xs.getD j 0) * (xs.getD j 0 - xs.getD k 0) := by grind
    rw [e, ← this]
  refine ⟨hql, hz, fun z => ?_⟩
  -- else it has as many roots as items
  have all : ∀ i, (part xs k).getD i 0 = 0 := roots_zero xs (part xs k) (by omega) hn fun x hx => by
    obtain ⟨j, hj, rfl⟩ := List.getElem_of_mem hx
    by_cases hjk : j = k
    · subst hjk; rw [← ge j hj]; exact z
    · rw [← ge j hj]; exact hz j hj hjk
  have tp : Tr (part xs k) := tr_pdiv1
  exact tr_last (n := xs.length - 1) tp (by omega) (all _)
theorem interp_facts {xs ys : List α} (hn : xs.Nodup) : Tr (interp xs ys) ∧ (interp xs ys).length ≤ xs.length ∧ ∀ j, j < xs.length → ev (interp xs ys) (xs.getD j 0) = ys.getD j 0 := by
  suffices h : ∀ n, n ≤ xs.length → Tr (loopN (interpTurn xs ys) n []) ∧ (loopN (interpTurn xs ys) n []).length ≤ xs.length ∧ ∀ j, j < xs.length → ev (loopN (interpTurn xs ys) n []) (xs.getD j 0) = if j < n then ys.getD j 0 else 0 by
    obtain ⟨h1, h2, h3⟩ := h xs.length (Nat.le_refl _)
    exact ⟨h1, h2, fun j hj => by rw [interp, h3 j hj, if_pos hj]⟩
  intro n
  induction n with
  | zero => intro _; exact ⟨Tr.nil, Nat.zero_le _, fun j _ => rfl⟩
  | succ n ih =>
    intro hle
    obtain ⟨h1, h2, h3⟩ := ih (by omega)
    obtain ⟨p1, p2, p3⟩ := part_facts hn (k := n) (by omega)
    have hi := Lean.Grind.Field.mul_inv_cancel p3
    refine ⟨tr_padd _ _, ?_, fun j hj => ?_⟩
    · refine Nat.le_trans (padd_length _ _) (Nat.max_le.mpr ⟨h2, Nat.le_trans (pscale_length _ _) (Nat.le_of_eq p1)⟩)
    · show ev (padd _ _) _ = _
      rw [ev_padd, ev_pscale, h3 j hj]
      by_cases hjn : j = n
      · subst hjn
        rw [if_neg (by omega), if_pos (by omega)]
        have e : ev (part xs j) (xs.getD j 0) * (ys.getD j 0 * (ev (part xs j) (xs.getD j 0))⁻¹) = (ev (part xs j) (xs.getD j 0) * (ev (part xs j) (xs.getD j 0))⁻¹) * ys.getD j 0 := by grind
        rw [e, hi]; grind
      · rw [p2 j hj hjn]
        by_cases hlt : j < n
        · rw [if_pos hlt, if_pos (by omega)]; grind
        · rw [if_neg hlt, if_neg (by omega)]; grind

/-! ### the key equation -/
structure Row (α : Type) where
  before : List α
  top : List α
  before_bottom : List α
  bottom : List α
def rowStep (r : Row α) : Row α := ⟨r.top, (pdiv r.before r.top).2, r.bottom, psub r.before_bottom (pmul (pdiv r.before r.top).1 r.bottom)⟩
/-- m points xs with values ys; bound -/
structure RowInv (xs ys : List α) (bound : Nat) (r : Row α) : Prop where
  tb : Tr r.before
  tt : Tr r.top
  tv : Tr r.bottom
  big : bound < r.before.length
  lt : r.top.length < r.before.length
  vlt : r.before_bottom.length < r.bottom.length
  sum : r.bottom.length + r.before.length = xs.length + 2
  e1 : ∀ j, j < xs.length → ev r.before (xs.getD j 0) = ev r.before_bottom (xs.getD j 0) * ys.getD j 0
  e2 : ∀ j, j < xs.length → ev r.top (xs.getD j 0) = ev r.bottom (xs.getD j 0) * ys.getD j 0
theorem rowStep_inv {xs ys : List α} {bound : Nat} {r : Row α} (R : RowInv xs ys bound r) (h : bound < r.top.length) : RowInv xs ys bound (rowStep r) ∧ (rowStep r).top.length < r.top.length := by
  obtain ⟨tb, tt, tv, big, lt, vlt, sum, e1, e2⟩ := R
  have hne : r.top ≠ [] := fun z => by rw [z] at h; simp at h
  have hq := pdiv_quot tb tt hne (by omega)
  have hr := pdiv_rest (a := r.before) tt hne
  have hqne : (pdiv r.before r.top).1 ≠ [] := fun z => by rw [z] at hq; simp at hq; omega
  have hvne : r.bottom ≠ [] := fun z => by rw [z] at vlt; simp at vlt
  have hm := pmul_length (tr_pdiv1 (a := r.before) (b := r.top)) tv hqne hvne
  -- the new bottom has the product's length
  have hlow : (psub r.before_bottom (pmul (pdiv r.before r.top).1 r.bottom)).length = (pmul (pdiv r.before r.top).1 r.bottom).length := by
    obtain ⟨n, hn⟩ : ∃ n, (pmul (pdiv r.before r.top).1 r.bottom).length = n + 1 := ⟨(pmul (pdiv r.before r.top).1 r.bottom).length - 1, by omega⟩
    rw [hn]
    have tlast := tr_last (tr_pmul (pdiv r.before r.top).1 r.bottom) hn
    have c := cf_psub r.before_bottom (pmul (pdiv r.before r.top).1 r.bottom)
    have e : (trim (psub r.before_bottom (pmul (pdiv r.before r.top).1 r.bottom))).length = n + 1 := by
      refine trim_length_eq ?_ fun k hk => ?_
      · rw [c, cf_out (P := r.before_bottom) (by omega)]
        intro z
        apply tlast
        have : (pmul (pdiv r.before r.top).1 r.bottom).getD n 0 = 0 - (0 - (pmul (pdiv r.before r.top).1 r.bottom).getD n 0) := by grind
        rw [this, z]; grind
      · rw [c, cf_out (P := r.before_bottom) (by omega), cf_out (P := pmul _ _) (by omega)]; grind
    rwa [show trim (psub r.before_bottom (pmul (pdiv r.before r.top).1 r.bottom)) = _ from tr_psub _ _] at e
  refine ⟨⟨tt, tr_pdiv2, tr_psub _ _, h, hr, ?_, ?_, e2, fun j hj => ?_⟩, hr⟩
  · show r.bottom.length < (psub _ _).length
    rw [hlow]; omega
  · show (psub _ _).length + r.top.length = _
    rw [hlow]; omega
  · show ev (pdiv r.before r.top).2 _ = ev (psub _ _) _ * _
    have := pdiv_ev (a := r.before) tt hne (xs.getD j 0)
    rw [e1 j hj, e2 j hj] at this
    rw [ev_psub, ev_pmul]
    have e : ev (pdiv r.before r.top).2 (xs.getD j 0) = ev r.before_bottom (xs.getD j 0) * ys.getD j 0 - ev (pdiv r.before r.top).1 (xs.getD j 0) * (ev r.bottom (xs.getD j 0) * ys.getD j 0) := by rw [this]; grind
    rw [e]; grind
/-- the rows until the top is short; n: at most so many -/
def rowsN (bound : Nat) : Nat → Row α → Row α
  | 0, r => r
  | n + 1, r => if bound < r.top.length then rowsN bound n (rowStep r) else r
theorem rowsN_inv {xs ys : List α} {bound : Nat} : ∀ (n : Nat) {r : Row α}, RowInv xs ys bound r → r.top.length ≤ n → RowInv xs ys bound (rowsN bound n r) ∧ (rowsN bound n r).top.length ≤ bound
  | 0, r, R, h => ⟨R, by show r.top.length ≤ _; omega⟩
  | n + 1, r, R, h => by
    unfold rowsN
    split
    · rename_i hb
      obtain ⟨R', hl⟩ := rowStep_inv R hb
      exact rowsN_inv n R' (by omega)
    · exact ⟨R, by omega⟩
theorem rowsN_step {bound : Nat} {n : Nat} {r : Row α} (h : bound < r.top.length) : rowsN bound (n + 1) r = rowsN bound n (rowStep r) := if_pos h
def lastRow (modulus value : List α) (bound : Nat) : Row α := rowsN bound value.length ⟨modulus, value, [], [1]⟩
def keyTop (modulus value : List α) (bound : Nat) : List α := pscale (lastRow modulus value bound).top ((lastRow modulus value bound).bottom.getD ((lastRow modulus value bound).bottom.length - 1) 0)⁻¹
def keyBottom (modulus value : List α) (bound : Nat) : List α := pscale (lastRow modulus value bound).bottom ((lastRow modulus value bound).bottom.getD ((lastRow modulus value bound).bottom.length - 1) 0)⁻¹
theorem start_inv {xs ys : List α} (hn : xs.Nodup) {bound : Nat} (hb : bound ≤ xs.length) : RowInv xs ys bound ⟨froots xs, interp xs ys, [], [1]⟩ := by
  obtain ⟨t, l, r⟩ := froots_inv xs
  obtain ⟨i1, i2, i3⟩ := interp_facts (ys := ys) hn
  refine ⟨t, i1, tr_one, by show bound < (froots xs).length; omega, by show (interp xs ys).length < (froots xs).length; omega, by show 0 < 1; omega, by show 1 + (froots xs).length = _; omega, fun j hj => ?_, fun j hj => ?_⟩
  · show ev (froots xs) _ = ev [] _ * _
    rw [ev_nil, r]
    · grind
    · rw [List.getD_eq_getElem?_getD, List.getElem?_eq_getElem hj]
      exact List.getElem_mem hj
  · show ev (interp xs ys) _ = ev [1] _ * _
    rw [i3 j hj, ev_cons, ev_nil]; grind
structure KeyFacts (xs ys : List α) (bound : Nat) (T B : List α) : Prop where
  tT : Tr T
  tB : Tr B
  ne : B ≠ []
  lT : T.length ≤ bound
  lB : B.length + bound ≤ xs.length + 1
  ev : ∀ j, j < xs.length → GP.ev T (xs.getD j 0) = GP.ev B (xs.getD j 0) * ys.getD j 0
theorem lastRow_inv {xs ys : List α} (hn : xs.Nodup) {bound : Nat} (hb : bound ≤ xs.length) :
    RowInv xs ys bound (lastRow (froots xs) (interp xs ys) bound) ∧ (lastRow (froots xs) (interp xs ys) bound).top.length ≤ bound :=
  rowsN_inv _ (start_inv (ys := ys) hn hb) (Nat.le_refl _)
theorem inv_ne {a : α} (h : a ≠ 0) : a⁻¹ ≠ 0 := fun z => by
  have := Lean.Grind.Field.mul_inv_cancel h
  rw [z] at this
  apply one_ne (α := α)
  rw [← this]; grind
theorem key_facts {xs ys : List α} (hn : xs.Nodup) {bound : Nat} (hb : bound ≤ xs.length) :
    KeyFacts xs ys bound (keyTop (froots xs) (interp xs ys) bound) (keyBottom (froots xs) (interp xs ys) bound) := by
  obtain ⟨R, hl⟩ := lastRow_inv (ys := ys) hn hb
  unfold keyTop keyBottom
  generalize lastRow (froots xs) (interp xs ys) bound = r at R hl
  obtain ⟨tb, tt, tv, big, lt, vlt, sum, e1, e2⟩ := R
  have hlast := tr_last (n := r.bottom.length - 1) tv (by omega)
  have hi := inv_ne hlast
  have l2 := pscale_length_eq tv hi
  refine ⟨tr_pscale _ _, tr_pscale _ _, fun z => ?_, Nat.le_trans (pscale_length _ _) hl, by omega, fun j hj => ?_⟩
  · rw [z] at l2; simp at l2; omega
  · rw [ev_pscale, ev_pscale, e2 j hj]; grind

/-! ### the decoder's heart: if f is near, the quotient is f and nothing is left -/
/-- at how many of the first m points f is wrong -/
def wrong (xs ys f : List α) : Nat := ((List.range xs.length).filter fun j => decide (ev f (xs.getD j 0) ≠ ys.getD j 0)).length
theorem filter_split (p : Nat → Bool) : ∀ l : List Nat, (l.filter p).length + (l.filter fun j => !p j).length = l.length
  | [] => rfl
  | a :: l => by
    have := filter_split p l
    simp only [List.filter_cons, List.length_cons]
    cases p a <;> simp <;> omega
theorem map_nodup {xs : List α} (hn : xs.Nodup) (l : List Nat) (hl : l.Nodup) (hm : ∀ j ∈ l, j < xs.length) : (l.map fun j => xs.getD j 0).Nodup := by
  induction l with
  | nil => exact List.nodup_nil
  | cons a l ih =>
    rw [List.nodup_cons] at hl
    rw [List.map_cons, List.nodup_cons]
    refine ⟨fun h => ?_, ih hl.2 fun j hj => hm j (List.mem_cons_of_mem _ hj)⟩
    obtain ⟨b, hb, e⟩ := List.mem_map.mp h
    have ha := hm a List.mem_cons_self
    have hb' := hm b (List.mem_cons_of_mem _ hb)
    rw [List.getD_eq_getElem?_getD, List.getD_eq_getElem?_getD, List.getElem?_eq_getElem ha, List.getElem?_eq_getElem hb'] at e
    have : b = a := (List.getElem_inj hn).mp (by simpa using e)
    rw [this] at hb
    exact hl.1 hb
/-- a list that vanishes at so many of the points as it has items at most -/
theorem vanish {xs P : List α} (hn : xs.Nodup) (l : List Nat) (hl : l.Nodup) (hm : ∀ j ∈ l, j < xs.length) (hP : P.length ≤ l.length) (h : ∀ j ∈ l, ev P (xs.getD j 0) = 0) : ∀ k, P.getD k 0 = 0 :=
  roots_zero (l.map fun j => xs.getD j 0) P (by simpa using hP) (map_nodup hn l hl hm) fun x hx => by
    obtain ⟨j, hj, rfl⟩ := List.mem_map.mp hx
    exact h j hj
theorem range_nodup' (n : Nat) : (List.range n).Nodup := List.nodup_range
theorem ev_zero {P : List α} (h : ∀ k, P.getD k 0 = 0) (x : α) : ev P x = 0 := by
  rw [ev_congr (R := []) (fun k => by rw [h k]; rfl) x]; rfl
theorem gao {xs ys f : List α} (hn : xs.Nodup) {k bound : Nat} (hk : k ≤ xs.length) (hbd : bound = (xs.length + k + 1) / 2) (tf : Tr f) (hf : f.length ≤ k) (hw : 2 * wrong xs ys f + k ≤ xs.length)
    {T B : List α} (K : KeyFacts xs ys bound T B) : (pdiv T B).1 = f ∧ (pdiv T B).2 = [] := by
  obtain ⟨tT, tB, ne, lT, lB, hev⟩ := K
  have hBl : 0 < B.length := List.length_pos_iff.mpr ne
  -- T = B * f
  have z1 : ∀ i, (psub T (pmul B f)).getD i 0 = 0 := by
    refine vanish hn ((List.range xs.length).filter fun j => !decide (ev f (xs.getD j 0) ≠ ys.getD j 0)) ((range_nodup' _).sublist List.filter_sublist) (fun j hj => List.mem_range.mp (List.mem_filter.mp hj).1) ?_ fun j hj => ?_
    · have s := filter_split (fun j => decide (ev f (xs.getD j 0) ≠ ys.getD j 0)) (List.range xs.length)
      rw [List.length_range] at s
      have w : ((List.range xs.length).filter fun j => decide (ev f (xs.getD j 0) ≠ ys.getD j 0)).length = wrong xs ys f := rfl
      rw [w] at s
      have l1 := psub_length T (pmul B f)
      have l2 := pmul_length_le B f
      omega
    · have h1 := hev j (List.mem_range.mp (List.mem_filter.mp hj).1)
      have h2 : ev f (xs.getD j 0) = ys.getD j 0 := by simpa using (List.mem_filter.mp hj).2
      rw [ev_psub, ev_pmul, h1, h2]; grind
  have z2 : ∀ x, ev T x = ev B x * ev f x := fun x => by
    have := ev_zero z1 x
    rw [ev_psub, ev_pmul] at this
    have e : ev T x = (ev T x - ev B x * ev f x) + ev B x * ev f x := by grind
    rw [e, this]; grind
  -- the quotient
  generalize hq : (pdiv T B).1 = q
  generalize hr : (pdiv T B).2 = r
  have tq : Tr q := by rw [← hq]; exact tr_pdiv1
  have tr' : Tr r := by rw [← hr]; exact tr_pdiv2
  have hrl : r.length < B.length := by rw [← hr]; exact pdiv_rest tB ne
  have hql : q.length ≤ T.length + 1 - B.length := by rw [← hq]; exact pdiv_quot_le
  have z3 : ∀ x, (ev q x - ev f x) * ev B x + ev r x = 0 := fun x => by
    have := pdiv_ev (a := T) tB ne x
    rw [hq, hr, z2 x] at this
    have e : ev r x = ev B x * ev f x - ev q x * ev B x := by rw [this]; grind
    rw [e]; grind
  have hfq : psub q f = [] := by
    refine Classical.byContradiction fun hne => ?_
    have td := tr_psub q f
    have hm := pmul_length td tB hne ne
    have hd1 := psub_length q f
    have zz : ∀ i, (padd (pmul (psub q f) B) r).getD i 0 = 0 := by
      refine vanish hn (List.range xs.length) (range_nodup' _) (fun j hj => List.mem_range.mp hj) ?_ fun j hj => ?_
      · have l1 := padd_length (pmul (psub q f) B) r
        rw [List.length_range]
        have hdp := List.length_pos_iff.mpr hne
        omega
      · rw [ev_padd, ev_pmul, ev_psub]
        exact z3 _
    have hdp := List.length_pos_iff.mpr hne
    have c := zz ((pmul (psub q f) B).length - 1)
    rw [cf_padd, cf_out (P := r) (by omega)] at c
    refine tr_last (P := pmul (psub q f) B) (n := (pmul (psub q f) B).length - 1) (tr_pmul _ _) (by omega) ?_
    rw [← c]; grind
  have hqf : q = f := tr_ext tq tf fun i => by
    have := cf_psub q f i
    rw [hfq] at this
    have e : q.getD i 0 = (q.getD i 0 - f.getD i 0) + f.getD i 0 := by grind
    rw [e, ← this, cf_out (P := ([] : List α)) (Nat.zero_le _)]; grind
  refine ⟨hqf, ?_⟩
  have zr : ∀ i, r.getD i 0 = 0 := by
    refine vanish hn (List.range xs.length) (range_nodup' _) (fun j hj => List.mem_range.mp hj) (by rw [List.length_range]; omega) fun j hj => ?_
    have := z3 (xs.getD j 0)
    rw [hqf] at this
    rw [← this]; grind
  have := trim_eq_nil zr
  rwa [show trim r = r from tr'] at this
/-- two near polynomials are one -/
theorem near_one {xs : List α} (hn : xs.Nodup) {k : Nat} {f g : List α} (hf : f.length ≤ k) (hg : g.length ≤ k) (l : List Nat) (hl : l.Nodup) (hm : ∀ j ∈ l, j < xs.length) (hk : k ≤ l.length)
    (h : ∀ j ∈ l, ev f (xs.getD j 0) = ev g (xs.getD j 0)) : ∀ x, ev f x = ev g x := fun x => by
  have z := vanish (P := psub f g) hn l hl hm (by have := psub_length f g; omega) fun j hj => by rw [ev_psub, h j hj]; grind
  have := ev_zero z x
  rw [ev_psub] at this
  have e : ev f x = (ev f x - ev g x) + ev g x := by grind
  rw [e, this]; grind
end GP

set_option Elab.async false
set_option linter.all false
set_option maxRecDepth 100000
/-! The eight fields by tables; they are fields in the sense of Lean.Grind. Printed by gen_gf.py. -/
namespace GP
def fps : List Nat := [2, 3, 5, 7, 2, 2, 3, 3]
def fms : List (List Nat) := [[0, 1], [0, 1], [0, 1], [0, 1], [1, 1, 1], [1, 1, 0, 1], [1, 0, 1], [2, 1, 1]]
def qs : List Nat := [2, 3, 5, 7, 4, 8, 9, 9]
def addT : List (List (List Nat)) := [[[0, 1], [1, 0]], [[0, 1, 2], [1, 2, 0], [2, 0, 1]], [[0, 1, 2, 3, 4], [1, 2, 3, 4, 0], [2, 3, 4, 0, 1], [3, 4, 0, 1, 2], [4, 0, 1, 2, 3]], [[0, 1, 2, 3, 4, 5, 6], [1, 2, 3, 4, 5, 6, 0], [2, 3, 4, 5, 6, 0, 1], [3, 4, 5, 6, 0, 1, 2], [4, 5, 6, 0, 1, 2, 3], [5, 6, 0, 1, 2, 3, 4], [6, 0, 1, 2, 3, 4, 5]], [[0, 1, 2, 3], [1, 0, 3, 2], [2, 3, 0, 1], [3, 2, 1, 0]], [[0, 1, 2, 3, 4, 5, 6, 7], [1, 0, 3, 2, 5, 4, 7, 6], [2, 3, 0, 1, 6, 7, 4, 5], [3, 2, 1, 0, 7, 6, 5, 4], [4, 5, 6, 7, 0, 1, 2, 3], [5, 4, 7, 6, 1, 0, 3, 2], [6, 7, 4, 5, 2, 3, 0, 1], [7, 6, 5, 4, 3, 2, 1, 0]], [[0, 1, 2, 3, 4, 5, 6, 7, 8], [1, 2, 0, 4, 5, 3, 7, 8, 6], [2, 0, 1, 5, 3, 4, 8, 6, 7], [3, 4, 5, 6, 7, 8, 0, 1, 2], [4, 5, 3, 7, 8, 6, 1, 2, 0], [5, 3, 4, 8, 6, 7, 2, 0, 1], [6, 7, 8, 0, 1, 2, 3, 4, 5], [7, 8, 6, 1, 2, 0, 4, 5, 3], [8, 6, 7, 2, 0, 1, 5, 3, 4]], [[0, 1, 2, 3, 4, 5, 6, 7, 8], [1, 2, 0, 4, 5, 3, 7, 8, 6], [2, 0, 1, 5, 3, 4, 8, 6, 7], [3, 4, 5, 6, 7, 8, 0, 1, 2], [4, 5, 3, 7, 8, 6, 1, 2, 0], [5, 3, 4, 8, 6, 7, 2, 0, 1], [6, 7, 8, 0, 1, 2, 3, 4, 5], [7, 8, 6, 1, 2, 0, 4, 5, 3], [8, 6, 7, 2, 0, 1, 5, 3, 4]]]
def mulT : List (List (List Nat)) := [[[0, 0], [0, 1]], [[0, 0, 0], [0, 1, 2], [0, 2, 1]], [[0, 0, 0, 0, 0], [0, 1, 2, 3, 4], [0, 2, 4, 1, 3], [0, 3, 1, 4, 2], [0, 4, 3, 2, 1]], [[0, 0, 0, 0, 0, 0, 0], [0, 1, 2, 3, 4, 5, 6], [0, 2, 4, 6, 1, 3, 5], [0, 3, 6, 2, 5, 1, 4], [0, 4, 1, 5, 2, 6, 3], [0, 5, 3, 1, 6, 4, 2], [0, 6, 5, 4, 3, 2, 1]], [[0, 0, 0, 0], [0, 1, 2, 3], [0, 2, 3, 1], [0, 3, 1, 2]], [[0, 0, 0, 0, 0, 0, 0, 0], [0, 1, 2, 3, 4, 5, 6, 7], [0, 2, 4, 6, 3, 1, 7, 5], [0, 3, 6, 5, 7, 4, 1, 2], [0, 4, 3, 7, 6, 2, 5, 1], [0, 5, 1, 4, 2, 7, 3, 6], [0, 6, 7, 1, 5, 3, 2, 4], [0, 7, 5, 2, 1, 6, 4, 3]], [[0, 0, 0, 0, 0, 0, 0, 0, 0], [0, 1, 2, 3, 4, 5, 6, 7, 8], [0, 2, 1, 6, 8, 7, 3, 5, 4], [0, 3, 6, 2, 5, 8, 1, 4, 7], [0, 4, 8, 5, 6, 1, 7, 2, 3], [0, 5, 7, 8, 1, 3, 4, 6, 2], [0, 6, 3, 1, 7, 4, 2, 8, 5], [0, 7, 5, 4, 2, 6, 8, 3, 1], [0, 8, 4, 7, 3, 2, 5, 1, 6]], [[0, 0, 0, 0, 0, 0, 0, 0, 0], [0, 1, 2, 3, 4, 5, 6, 7, 8], [0, 2, 1, 6, 8, 7, 3, 5, 4], [0, 3, 6, 7, 1, 4, 5, 8, 2], [0, 4, 8, 1, 5, 6, 2, 3, 7], [0, 5, 7, 4, 6, 2, 8, 1, 3], [0, 6, 3, 5, 2, 8, 7, 4, 1], [0, 7, 5, 8, 3, 1, 4, 2, 6], [0, 8, 4, 2, 7, 3, 1, 6, 5]]]
def negT : List (List Nat) := [[0, 1], [0, 2, 1], [0, 4, 3, 2, 1], [0, 6, 5, 4, 3, 2, 1], [0, 1, 2, 3], [0, 1, 2, 3, 4, 5, 6, 7], [0, 2, 1, 6, 8, 7, 3, 5, 4], [0, 2, 1, 6, 8, 7, 3, 5, 4]]
def invT : List (List Nat) := [[0, 1], [0, 1, 2], [0, 1, 3, 2, 4], [0, 1, 4, 5, 2, 3, 6], [0, 1, 3, 2], [0, 1, 5, 6, 7, 2, 3, 4], [0, 1, 2, 6, 5, 4, 3, 8, 7], [0, 1, 2, 4, 3, 7, 8, 5, 6]]
/-- the order of the field i -/
def qo (i : Fin 8) : Nat := qs.getD i.val 2
theorem qo_pos : ∀ i : Fin 8, 0 < qo i := by decide +kernel
def tAddN (i : Fin 8) (a b : Nat) : Nat := ((addT.getD i.val []).getD a []).getD b 0
def tMulN (i : Fin 8) (a b : Nat) : Nat := ((mulT.getD i.val []).getD a []).getD b 0
def tNegN (i : Fin 8) (a : Nat) : Nat := (negT.getD i.val []).getD a 0
def tInvN (i : Fin 8) (a : Nat) : Nat := (invT.getD i.val []).getD a 0
def fAdd (i : Fin 8) (a b : Fin (qo i)) : Fin (qo i) := ⟨tAddN i a.val b.val % qo i, Nat.mod_lt _ (qo_pos i)⟩
def fMul (i : Fin 8) (a b : Fin (qo i)) : Fin (qo i) := ⟨tMulN i a.val b.val % qo i, Nat.mod_lt _ (qo_pos i)⟩
def fNeg (i : Fin 8) (a : Fin (qo i)) : Fin (qo i) := ⟨tNegN i a.val % qo i, Nat.mod_lt _ (qo_pos i)⟩
def fInv (i : Fin 8) (a : Fin (qo i)) : Fin (qo i) := ⟨tInvN i a.val % qo i, Nat.mod_lt _ (qo_pos i)⟩
def fZero (i : Fin 8) : Fin (qo i) := ⟨0, qo_pos i⟩
def fOne (i : Fin 8) : Fin (qo i) := ⟨1 % qo i, Nat.mod_lt _ (qo_pos i)⟩
theorem f_add_assoc : ∀ (i : Fin 8) (a b c : Fin (qo i)), fAdd i (fAdd i a b) c = fAdd i a (fAdd i b c) := by decide +kernel
theorem f_mul_assoc : ∀ (i : Fin 8) (a b c : Fin (qo i)), fMul i (fMul i a b) c = fMul i a (fMul i b c) := by decide +kernel
theorem f_distrib : ∀ (i : Fin 8) (a b c : Fin (qo i)), fMul i a (fAdd i b c) = fAdd i (fMul i a b) (fMul i a c) := by decide +kernel
theorem f_add_comm : ∀ (i : Fin 8) (a b : Fin (qo i)), fAdd i a b = fAdd i b a := by decide +kernel
theorem f_mul_comm : ∀ (i : Fin 8) (a b : Fin (qo i)), fMul i a b = fMul i b a := by decide +kernel
theorem f_add_zero : ∀ (i : Fin 8) (a : Fin (qo i)), fAdd i a (fZero i) = a := by decide +kernel
theorem f_mul_one : ∀ (i : Fin 8) (a : Fin (qo i)), fMul i a (fOne i) = a := by decide +kernel
theorem f_mul_zero : ∀ (i : Fin 8) (a : Fin (qo i)), fMul i a (fZero i) = fZero i := by decide +kernel
theorem f_neg : ∀ (i : Fin 8) (a : Fin (qo i)), fAdd i (fNeg i a) a = fZero i := by decide +kernel
theorem f_inv : ∀ (i : Fin 8) (a : Fin (qo i)), a ≠ fZero i → fMul i a (fInv i a) = fOne i := by decide +kernel
theorem f_inv_zero : ∀ (i : Fin 8), fInv i (fZero i) = fZero i := by decide +kernel
theorem f_zero_one : ∀ (i : Fin 8), fZero i ≠ fOne i := by decide +kernel

/-- an element of the field i -/
structure GF (i : Fin 8) where
  v : Fin (qo i)
  deriving DecidableEq
namespace GF
variable {i : Fin 8}
def natTo (i : Fin 8) : Nat → GF i
  | 0 => ⟨fZero i⟩
  | n + 1 => ⟨fAdd i (natTo i n).v (fOne i)⟩
def npowTo (a : GF i) : Nat → GF i
  | 0 => ⟨fOne i⟩
  | n + 1 => ⟨fMul i (npowTo a n).v a.v⟩
theorem one_eq : natTo i 1 = ⟨fOne i⟩ := by
  show (⟨fAdd i (fZero i) (fOne i)⟩ : GF i) = _
  rw [f_add_comm, f_add_zero]
def intTo (i : Fin 8) : Int → GF i
  | .ofNat n => natTo i n
  | .negSucc n => ⟨fNeg i (natTo i (n + 1)).v⟩
instance : Add (GF i) := ⟨fun a b => ⟨fAdd i a.v b.v⟩⟩
instance : Mul (GF i) := ⟨fun a b => ⟨fMul i a.v b.v⟩⟩
instance : Neg (GF i) := ⟨fun a => ⟨fNeg i a.v⟩⟩
instance : Sub (GF i) := ⟨fun a b => ⟨fAdd i a.v (fNeg i b.v)⟩⟩
instance : NatCast (GF i) := ⟨natTo i⟩
instance : IntCast (GF i) := ⟨intTo i⟩
instance (n : Nat) : OfNat (GF i) n := ⟨natTo i n⟩
instance : SMul Nat (GF i) := ⟨fun n a => ⟨fMul i (natTo i n).v a.v⟩⟩
instance : SMul Int (GF i) := ⟨fun n a => ⟨fMul i (intTo i n).v a.v⟩⟩
instance : HPow (GF i) Nat (GF i) := ⟨npowTo⟩
instance : Inv (GF i) := ⟨fun a => ⟨fInv i a.v⟩⟩
instance : Div (GF i) := ⟨fun a b => ⟨fMul i a.v (fInv i b.v)⟩⟩
def zpowTo (a : GF i) : Int → GF i
  | .ofNat n => npowTo a n
  | .negSucc n => ⟨fInv i (npowTo a (n + 1)).v⟩
instance : HPow (GF i) Int (GF i) := ⟨zpowTo⟩
theorem zero_def : (0 : GF i) = ⟨fZero i⟩ := rfl
theorem one_def : (1 : GF i) = ⟨fOne i⟩ := one_eq
theorem add_def (a b : GF i) : a + b = ⟨fAdd i a.v b.v⟩ := rfl
theorem mul_def (a b : GF i) : a * b = ⟨fMul i a.v b.v⟩ := rfl
theorem neg_def (a : GF i) : -a = ⟨fNeg i a.v⟩ := rfl
theorem sub_def (a b : GF i) : a - b = ⟨fAdd i a.v (fNeg i b.v)⟩ := rfl
theorem inv_def (a : GF i) : a⁻¹ = ⟨fInv i a.v⟩ := rfl
theorem neg_neg (a : Fin (qo i)) : fNeg i (fNeg i a) = a := by
  revert a
  exact (by decide +kernel : ∀ (i : Fin 8) (a : Fin (qo i)), fNeg i (fNeg i a) = a) i
theorem neg_mul (a b : Fin (qo i)) : fMul i (fNeg i a) b = fNeg i (fMul i a b) := by
  revert a b
  exact (by decide +kernel : ∀ (i : Fin 8) (a b : Fin (qo i)), fMul i (fNeg i a) b = fNeg i (fMul i a b)) i
theorem neg_zero : fNeg i (fZero i) = fZero i := (by decide +kernel : ∀ i : Fin 8, fNeg i (fZero i) = fZero i) i
theorem inv_inv (a : Fin (qo i)) : fInv i (fInv i a) = a := by
  revert a
  exact (by decide +kernel : ∀ (i : Fin 8) (a : Fin (qo i)), fInv i (fInv i a) = a) i
theorem inv_one : fInv i (fOne i) = fOne i := (by decide +kernel : ∀ i : Fin 8, fInv i (fOne i) = fOne i) i
theorem intTo_neg (n : Int) : intTo i (-n) = ⟨fNeg i (intTo i n).v⟩ := by
  cases n with
  | ofNat n =>
    cases n with
    | zero => show natTo i 0 = ⟨fNeg i (natTo i 0).v⟩; show (⟨fZero i⟩ : GF i) = ⟨fNeg i (fZero i)⟩; rw [neg_zero]
    | succ n => rfl
  | negSucc n => show natTo i (n + 1) = ⟨fNeg i (fNeg i (natTo i (n + 1)).v)⟩; rw [neg_neg]
instance : Lean.Grind.Field (GF i) where
  add_zero a := by rw [zero_def, add_def, f_add_zero]
  add_comm a b := by rw [add_def, add_def, f_add_comm]
  add_assoc a b c := by simp only [add_def, f_add_assoc]
  mul_assoc a b c := by simp only [mul_def, f_mul_assoc]
  mul_one a := by rw [one_def, mul_def, f_mul_one]
  one_mul a := by rw [one_def, mul_def, f_mul_comm, f_mul_one]
  right_distrib a b c := by simp only [mul_def, add_def, f_mul_comm _ _ c.v, f_distrib]
  mul_zero a := by rw [zero_def, mul_def, f_mul_zero]
  left_distrib a b c := by simp only [mul_def, add_def, f_distrib]
  zero_mul a := by rw [zero_def, mul_def, f_mul_comm, f_mul_zero]
  pow_zero a := by rw [one_def]; rfl
  pow_succ a n := rfl
  ofNat_succ n := by
    show natTo i (n + 1) = natTo i n + natTo i 1
    rw [one_eq]; rfl
  neg_add_cancel a := by rw [zero_def, neg_def, add_def, f_neg]
  sub_eq_add_neg a b := rfl
  neg_zsmul n a := by
    show (⟨fMul i (intTo i (-n)).v a.v⟩ : GF i) = ⟨fNeg i (fMul i (intTo i n).v a.v)⟩
    rw [intTo_neg, neg_mul]
  intCast_neg n := intTo_neg n
  mul_comm a b := by rw [mul_def, mul_def, f_mul_comm]
  div_eq_mul_inv a b := rfl
  zero_ne_one := by
    rw [zero_def, one_def]
    intro h
    exact f_zero_one i (GF.mk.inj h)
  inv_zero := by rw [zero_def, inv_def, f_inv_zero]
  mul_inv_cancel {a} h := by
    rw [one_def, mul_def, inv_def, f_inv i a.v fun z => h ?_]
    rw [zero_def]
    cases a
    simp only at z
    rw [z]
  zpow_zero a := by rw [one_def]; rfl
  zpow_succ a n := rfl
  zpow_neg a n := by
    cases n with
    | ofNat n =>
      cases n with
      | zero => show (⟨fOne i⟩ : GF i) = ⟨fInv i (fOne i)⟩; rw [inv_one]
      | succ n => rfl
    | negSucc n =>
      show npowTo a (n + 1) = ⟨fInv i (fInv i (npowTo a (n + 1)).v)⟩
      rw [inv_inv]
/-- as an int -/
def enc (a : GF i) : Int := (a.v.val : Int)
theorem enc_inj {a b : GF i} (h : enc a = enc b) : a = b := by
  cases a; cases b
  have h : ((_ : Nat) : Int) = ((_ : Nat) : Int) := h
  congr
  exact Fin.ext (Int.ofNat.inj h)
theorem enc_nonneg (a : GF i) : 0 ≤ enc a := Int.natCast_nonneg _
theorem enc_lt (a : GF i) : enc a < (qo i : Int) := Int.ofNat_lt.mpr a.v.isLt
theorem enc_zero : enc (0 : GF i) = 0 := rfl
theorem enc_one : enc (1 : GF i) = 1 := by
  rw [one_def]
  exact (by decide +kernel : ∀ i : Fin 8, ((fOne i).val : Int) = 1) i
theorem enc_surj {z : Int} (h0 : 0 ≤ z) (h1 : z < (qo i : Int)) : ∃ a : GF i, enc a = z :=
  ⟨⟨⟨z.toNat, by omega⟩⟩, by show ((z.toNat : Nat) : Int) = z; omega⟩
end GF
end GP

set_option Elab.async false
set_option linter.all false
set_option maxRecDepth 100000
/-! The ints behind the fields: what the code reckons, and that it is the tables' answer. Plain Lean. -/
namespace NW
open GP
def shr (b : Int) : Nat → Int → Int
  | 0, n => n
  | k + 1, n => shr b k n / b
/-- base_digits -/
def bd (n b : Int) (k : Nat) : List Int := (List.range k).map fun j => shr b j n % b
theorem bd_succ (n b : Int) (k : Nat) : bd n b (k + 1) = bd n b k ++ [shr b k n % b] := by
  unfold bd; rw [List.range_succ, List.map_append]; rfl
theorem bd_length (n b : Int) (k : Nat) : (bd n b k).length = k := by unfold bd; simp
/-- integer_remainder's inner loop, one turn, all turns -/
def irIn (p : Int) (dv : List Int) (factor : Int) (start n : Nat) (r : List Int) : List Int := loopN (fun k r => r.set (start + k) ((r.getD (start + k) 0 - factor * dv.getD k 0) % p)) n r
def irTurn (p : Int) (dv : List Int) (r : List Int) : List Int := (irIn p dv (r.getD (r.length - 1) 0) (r.length - dv.length) dv.length r).dropLast
def irN (p : Int) (dv : List Int) : Nat → List Int → List Int
  | 0, r => r
  | n + 1, r => irN p dv n (irTurn p dv r)
def irem (p : Int) (dv r : List Int) : List Int := irN p dv (r.length + 1 - dv.length) r
theorem irIn_length (p : Int) (dv : List Int) (f : Int) (s n : Nat) (r : List Int) : (irIn p dv f s n r).length = r.length := by
  induction n with
  | zero => rfl
  | succ n ih => show (List.set _ _ _).length = _; rw [List.length_set]; exact ih
theorem irTurn_length (p : Int) (dv r : List Int) : (irTurn p dv r).length = r.length - 1 := by
  unfold irTurn; rw [List.length_dropLast, irIn_length]
/-- element -/
def elem (p : Int) (ds : List Int) : Int := ds.foldr (fun d r => r * p + d) 0
theorem foldr_drop (p : Int) (ds : List Int) {i : Nat} (h : i < ds.length) : elem p (ds.drop i) = elem p (ds.drop (i + 1)) * p + ds[i] := by
  rw [List.drop_eq_getElem_cons h]; rfl
/-- Field.plus, negative, times for degrees above 1 -/
def plusD (p : Int) (d : Nat) (a b : Int) : Int := elem p ((List.range d).map fun k => ((bd a p d).getD k 0 + (bd b p d).getD k 0) % p)
def negD (p : Int) (d : Nat) (a : Int) : Int := elem p ((bd a p d).map fun z => (0 - z) % p)
def prodIn (p : Int) (A B : List Int) (i n : Nat) (r : List Int) : List Int := loopN (fun j r => r.set (i + j) ((r.getD (i + j) 0 + A.getD i 0 * B.getD j 0) % p)) n r
def prodOut (p : Int) (A B : List Int) (d m : Nat) (r : List Int) : List Int := loopN (fun i r => prodIn p A B i d r) m r
def timesD (p : Int) (md : List Int) (d : Nat) (a b : Int) : Int := elem p (irem p md (prodOut p (bd a p d) (bd b p d) d d (List.replicate (2 * d - 1) 0)))
theorem prodIn_length (p : Int) (A B : List Int) (i n : Nat) (r : List Int) : (prodIn p A B i n r).length = r.length := by
  induction n with
  | zero => rfl
  | succ n ih => show (List.set _ _ _).length = _; rw [List.length_set]; exact ih
theorem prodOut_length (p : Int) (A B : List Int) (d m : Nat) (r : List Int) : (prodOut p A B d m r).length = r.length := by
  induction m with
  | zero => rfl
  | succ m ih => show (prodIn p A B m d (prodOut p A B d m r)).length = _; rw [prodIn_length, ih]

/-! ### the eight fields -/
def fp (i : Fin 8) : Nat := fps.getD i.val 2
def fmN (i : Fin 8) : List Nat := fms.getD i.val []
def fm (i : Fin 8) : List Int := (fmN i).map Int.ofNat
def fd (i : Fin 8) : Nat := (fmN i).length - 1
def fq (i : Fin 8) : Nat := qo i
theorem fm_length (i : Fin 8) : (fm i).length = fd i + 1 := by
  unfold fm fd
  rw [List.length_map]
  have := (by decide +kernel : ∀ i : Fin 8, 1 ≤ (fmN i).length) i
  omega
theorem fd_pos (i : Fin 8) : 1 ≤ fd i := (by decide +kernel : ∀ i : Fin 8, 1 ≤ fd i) i
theorem fd_le (i : Fin 8) : fd i ≤ 3 := (by decide +kernel : ∀ i : Fin 8, fd i ≤ 3) i
theorem fp_pos (i : Fin 8) : 2 ≤ fp i := (by decide +kernel : ∀ i : Fin 8, 2 ≤ fp i) i
theorem fp_le (i : Fin 8) : fp i ≤ 7 := (by decide +kernel : ∀ i : Fin 8, fp i ≤ 7) i
theorem fq_le (i : Fin 8) : fq i ≤ 9 := (by decide +kernel : ∀ i : Fin 8, fq i ≤ 9) i
theorem fq_ge (i : Fin 8) : 2 ≤ fq i := (by decide +kernel : ∀ i : Fin 8, 2 ≤ fq i) i
theorem fq_pow (i : Fin 8) : ((fp i : Int)) ^ fd i = (fq i : Int) := (by decide +kernel : ∀ i : Fin 8, ((fp i : Int)) ^ fd i = (fq i : Int)) i
theorem fp_prime (i : Fin 8) (d : Int) (h1 : 2 ≤ d) (h2 : d < fp i) : ((fp i : Int)) % d ≠ 0 := by
  have h := (by decide +kernel : ∀ (i : Fin 8) (d : Fin 8), 2 ≤ d.val → d.val < fp i → ((fp i : Int)) % (d.val : Int) ≠ 0) i ⟨d.toNat, by have := fp_le i; omega⟩
  have e : ((d.toNat : Nat) : Int) = d := by omega
  have h' := h (by show 2 ≤ d.toNat; omega) (by show d.toNat < fp i; omega)
  rwa [show (((⟨d.toNat, by have := fp_le i; omega⟩ : Fin 8).val : Nat) : Int) = d from e] at h'
theorem fm_range (i : Fin 8) : ∀ z ∈ fm i, 0 ≤ z ∧ z < (fp i : Int) := (by decide +kernel : ∀ i : Fin 8, ∀ z ∈ fm i, 0 ≤ z ∧ z < (fp i : Int)) i
theorem fm_last (i : Fin 8) : (fm i).getD (fd i) 0 = 1 := (by decide +kernel : ∀ i : Fin 8, (fm i).getD (fd i) 0 = 1) i
/-- no monic polynomial of a lower degree divides the modulus -/
theorem fm_irr (i : Fin 8) (size n : Nat) (h1 : 1 ≤ size) (h2 : size < fd i) (h3 : (n : Int) < (fp i : Int) ^ size) : irem (fp i) (bd n (fp i) size ++ [1]) (fm i) ≠ List.replicate size 0 := by
  have hn : n < 32 := by
    have := (by decide +kernel : ∀ (i : Fin 8) (s : Fin 4), s.val < fd i → ((fp i : Int)) ^ s.val < 32) i ⟨size, by have := fd_le i; omega⟩ h2
    have this : (fp i : Int) ^ size < 32 := this
    omega
  exact (by decide +kernel : ∀ (i : Fin 8) (s : Fin 4) (n : Fin 32), 1 ≤ s.val → s.val < fd i → ((n.val : Nat) : Int) < (fp i : Int) ^ s.val → irem (fp i) (bd n.val (fp i) s.val ++ [1]) (fm i) ≠ List.replicate s.val 0)
    i ⟨size, by have := fd_le i; omega⟩ ⟨n, hn⟩ h1 h2 h3
theorem plus_one (i : Fin 8) (h : fd i = 1) (a b : GF i) : (GF.enc a + GF.enc b) % (fp i : Int) = GF.enc (a + b) := by
  have := (by decide +kernel : ∀ (i : Fin 8), fd i = 1 → ∀ a b : Fin (qo i), ((a.val : Nat) + (b.val : Nat) : Int) % (fp i : Int) = ((fAdd i a b).val : Nat)) i h a.v b.v
  exact this
theorem plus_more (i : Fin 8) (a b : GF i) : plusD (fp i) (fd i) (GF.enc a) (GF.enc b) = GF.enc (a + b) := by
  have := (by decide +kernel : ∀ (i : Fin 8) (a b : Fin (qo i)), plusD (fp i) (fd i) (a.val : Nat) (b.val : Nat) = ((fAdd i a b).val : Nat)) i a.v b.v
  exact this
theorem neg_any (i : Fin 8) (a : GF i) : negD (fp i) (fd i) (GF.enc a) = GF.enc (-a) := by
  have := (by decide +kernel : ∀ (i : Fin 8) (a : Fin (qo i)), negD (fp i) (fd i) (a.val : Nat) = ((fNeg i a).val : Nat)) i a.v
  exact this
theorem times_one (i : Fin 8) (h : fd i = 1) (a b : GF i) : (GF.enc a * GF.enc b) % (fp i : Int) = GF.enc (a * b) := by
  have := (by decide +kernel : ∀ (i : Fin 8), fd i = 1 → ∀ a b : Fin (qo i), ((a.val : Nat) * (b.val : Nat) : Int) % (fp i : Int) = ((fMul i a b).val : Nat)) i h a.v b.v
  exact this
theorem times_more (i : Fin 8) (a b : GF i) : timesD (fp i) (fm i) (fd i) (GF.enc a) (GF.enc b) = GF.enc (a * b) := by
  have := (by decide +kernel : ∀ (i : Fin 8) (a b : Fin (qo i)), timesD (fp i) (fm i) (fd i) (a.val : Nat) (b.val : Nat) = ((fMul i a b).val : Nat)) i a.v b.v
  exact this
end NW

set_option Elab.async false
set_option linter.all false
/-! What the decoder's code reckons, as a function: places, points, values; decode. Plain Lean. -/
namespace NW
open GP
def cutSt {α : Type} (z : α) (xs : List α) (k d n : Nat) : List α := (List.range n).map fun t => xs.getD (k + d * t) z
theorem cutSt_length {α : Type} (z : α) (xs : List α) (k d n : Nat) : (cutSt z xs k d n).length = n := by unfold cutSt; simp
/-- the items of several lists in turn -/
def mixL {α : Type} (z : α) (xss : List (List α)) (n : Nat) : List α := (List.range n).flatMap fun k => xss.map fun xs => xs.getD k z
theorem mixL_length {α : Type} (z : α) (xss : List (List α)) (n : Nat) : (mixL z xss n).length = n * xss.length := by
  induction n with
  | zero => simp [mixL]
  | succ n ih =>
    unfold mixL at ih ⊢
    rw [List.range_succ, List.flatMap_append, List.length_append, ih, Nat.succ_mul]
    simp
section
variable {i : Fin 8}
/-- at j the received item is known and another than the word's -/
def bad (W : List (GF i)) (R : List (Option (GF i))) (j : Nat) : Bool := match R.getD j none with
  | none => false
  | some a => decide (a ≠ W.getD j 0)
def errsN (W : List (GF i)) (R : List (Option (GF i))) (n : Nat) : Nat := ((List.range n).filter (bad W R)).length
def errs (W : List (GF i)) (R : List (Option (GF i))) : Nat := errsN W R W.length
theorem errsN_succ (W : List (GF i)) (R : List (Option (GF i))) (n : Nat) : errsN W R (n + 1) = errsN W R n + if bad W R n then 1 else 0 := by
  unfold errsN
  rw [List.range_succ, List.filter_append, List.length_append]
  by_cases h : bad W R n = true
  · simp [h]
  · simp [h]
/-- the places that are not erased -/
def known (R : List (Option (GF i))) (k : Nat) : Bool := (R.getD k none).isSome
def plsN (R : List (Option (GF i))) (n : Nat) : List Nat := (List.range n).filter (known R)
def pls (R : List (Option (GF i))) : List Nat := plsN R R.length
def xsOf (pts : List (GF i)) (R : List (Option (GF i))) : List (GF i) := (pls R).map fun k => pts.getD k 0
def ysOf (R : List (Option (GF i))) : List (GF i) := (pls R).map fun k => (R.getD k none).getD 0
def decTop (pts : List (GF i)) (k : Nat) (R : List (Option (GF i))) : List (GF i) := keyTop (froots (xsOf pts R)) (interp (xsOf pts R) (ysOf R)) (((pls R).length + k + 1) / 2)
def decBot (pts : List (GF i)) (k : Nat) (R : List (Option (GF i))) : List (GF i) := keyBottom (froots (xsOf pts R)) (interp (xsOf pts R) (ysOf R)) (((pls R).length + k + 1) / 2)
def decQ (pts : List (GF i)) (k : Nat) (R : List (Option (GF i))) : List (GF i) × List (GF i) := pdiv (decTop pts k R) (decBot pts k R)
def decW (pts : List (GF i)) (k : Nat) (R : List (Option (GF i))) : List (GF i) := pts.map (ev (decQ pts k R).1)
def decode (pts : List (GF i)) (k : Nat) (R : List (Option (GF i))) : Option (List (GF i)) :=
  if (pls R).length < k then none
  else if (decQ pts k R).2.length = 0 ∧ (decQ pts k R).1.length ≤ k ∧ errs (decW pts k R) R ≤ ((pls R).length - k) / 2 then some (decW pts k R)
  else none
/-- part after part -/
def decN (pts : List (GF i)) (k d : Nat) (R : List (Option (GF i))) : Nat → Option (List (List (GF i)))
  | 0 => some []
  | j + 1 => match decN pts k d R j with
    | none => none
    | some ws => match decode pts k (cutSt none R j d pts.length) with
      | none => none
      | some w => some (ws ++ [w])
theorem plsN_succ (R : List (Option (GF i))) (n : Nat) : plsN R (n + 1) = plsN R n ++ if known R n then [n] else [] := by
  unfold plsN
  rw [List.range_succ, List.filter_append]
  by_cases h : known R n = true
  · simp [h]
  · simp [h]
theorem mem_plsN {R : List (Option (GF i))} {n k : Nat} (h : k ∈ plsN R n) : k < n ∧ known R k = true :=
  ⟨List.mem_range.mp (List.mem_filter.mp h).1, (List.mem_filter.mp h).2⟩
theorem plsN_length (R : List (Option (GF i))) (n : Nat) : (plsN R n).length ≤ n := by
  have := List.length_filter_le (known R) (List.range n)
  rw [List.length_range] at this
  exact this
theorem plsN_nodup (R : List (Option (GF i))) (n : Nat) : (plsN R n).Nodup := (List.nodup_range (n := n)).sublist List.filter_sublist
theorem xsOf_nodup {pts : List (GF i)} (hn : pts.Nodup) {R : List (Option (GF i))} (hl : R.length = pts.length) : (xsOf pts R).Nodup :=
  map_nodup hn (pls R) (plsN_nodup R _) fun j hj => by rw [← hl]; exact (mem_plsN hj).1
theorem xsOf_length (pts : List (GF i)) (R : List (Option (GF i))) : (xsOf pts R).length = (pls R).length := List.length_map _
theorem ysOf_length (R : List (Option (GF i))) : (ysOf R).length = (pls R).length := List.length_map _
theorem decN_length {pts : List (GF i)} {k d : Nat} {R : List (Option (GF i))} : ∀ (j : Nat) {ws : List (List (GF i))}, decN pts k d R j = some ws → ws.length = j ∧ ∀ w ∈ ws, w.length = pts.length
  | 0, ws, h => by
    have e : [] = ws := Option.some.inj h
    subst e
    exact ⟨rfl, fun w hw => by simp at hw⟩
  | j + 1, ws, h => by
    unfold decN at h
    cases e : decN pts k d R j with
    | none => rw [e] at h; cases h
    | some ws' =>
      obtain ⟨h1, h2⟩ := decN_length j e
      rw [e] at h
      cases e2 : decode pts k (cutSt none R j d pts.length) with
      | none => simp only [e2] at h; cases h
      | some w =>
        simp only [e2] at h
        have e3 : ws' ++ [w] = ws := Option.some.inj h
        subst e3
        refine ⟨by simp [h1], fun v hv => ?_⟩
        rcases List.mem_append.mp hv with hv | hv
        · exact h2 v hv
        · have : v = w := by simpa using hv
          rw [this]
          unfold decode at e2
          split at e2
          · cases e2
          · split at e2
            · rw [← Option.some.inj e2]
              unfold decW
              simp
            · cases e2
theorem decN_some {pts : List (GF i)} {k d : Nat} {R : List (Option (GF i))} {j : Nat} {ws : List (List (GF i))} {w : List (GF i)} (h : decN pts k d R j = some ws) (h2 : decode pts k (cutSt none R j d pts.length) = some w) : decN pts k d R (j + 1) = some (ws ++ [w]) := by
  unfold decN
  rw [h]
  simp only [h2]
theorem decN_fail {pts : List (GF i)} {k d : Nat} {R : List (Option (GF i))} {j : Nat} {ws : List (List (GF i))} (h : decN pts k d R j = some ws) (h2 : decode pts k (cutSt none R j d pts.length) = none) : decN pts k d R (j + 1) = none := by
  unfold decN
  rw [h]
  simp only [h2]
theorem decN_none {pts : List (GF i)} {k d : Nat} {R : List (Option (GF i))} {j : Nat} (h : decN pts k d R j = none) : ∀ {t : Nat}, j ≤ t → decN pts k d R t = none := by
  intro t ht
  obtain ⟨u, rfl⟩ : ∃ u, t = j + u := ⟨t - j, by omega⟩
  clear ht
  induction u with
  | zero => exact h
  | succ u ih =>
    show decN pts k d R ((j + u) + 1) = none
    unfold decN
    rw [ih]
theorem cut_map {α β : Type} (f : α → β) (z : α) (xs : List α) (k d n : Nat) : cutSt (f z) (xs.map f) k d n = (cutSt z xs k d n).map f := by
  unfold cutSt
  rw [List.map_map]
  apply List.map_congr_left
  intro t _
  simp only [Function.comp, List.getD_eq_getElem?_getD, List.getElem?_map]
  cases xs[k + d * t]? <;> rfl
end
end NW

set_option Elab.async false
set_option linter.all false
set_option maxRecDepth 100000
set_option maxHeartbeats 4000000
/-! The text by places; what the top has written; the forms of promises. -/
namespace NW
open PySem L2
def top (i : Nat) : Stmt := PySem.Challenge.pw_nearestword_k65_whole_interleaved_bursts.main.body.getD i (.Pass ⟨0, 0, 0, 0⟩)

theorem bt_len : bootBuiltins "len" = some (.builtin "len") := by decide +kernel
theorem bt_abs : bootBuiltins "abs" = some (.builtin "abs") := by decide +kernel
theorem bt_max : bootBuiltins "max" = some (.builtin "max") := by decide +kernel
theorem bt_min : bootBuiltins "min" = some (.builtin "min") := by decide +kernel
theorem bt_isinstance : bootBuiltins "isinstance" = some (.builtin "isinstance") := by decide +kernel
theorem bt_int : bootBuiltins "int" = some (.type "int") := by decide +kernel
theorem bt_bool : bootBuiltins "bool" = some (.type "bool") := by decide +kernel
theorem bt_list : bootBuiltins "list" = some (.type "list") := by decide +kernel
theorem bt_tuple : bootBuiltins "tuple" = some (.type "tuple") := by decide +kernel

/-- what the top has written: built-in names stand free, the classes at CF, CE, CI -/
structure Txt (K : PySem.W.Frag) (mg : Str → Option Value) (CF CE CI : Addr) : Prop where
  n_len : mg "len" = none
  n_range : mg "range" = none
  n_list : mg "list" = none
  n_reversed : mg "reversed" = none
  n_set : mg "set" = none
  n_int : mg "int" = none
  n_bool : mg "bool" = none
  n_tuple : mg "tuple" = none
  n_max : mg "max" = none
  n_min : mg "min" = none
  n_abs : mg "abs" = none
  n_isinstance : mg "isinstance" = none
  g_LARGEST_PRIME : ∃ t, mg "LARGEST_PRIME" = some (.int 31 t)
  g_LARGEST_ORDER : ∃ t, mg "LARGEST_ORDER" = some (.int 256 t)
  g_LONGEST : ∃ t, mg "LONGEST" = some (.int 255 t)
  clF : Cls K CF
  clE : Cls K CE
  clI : Cls K CI
  g_Field : mg "Field" = some (.ref CF)
  g_EvaluationCode : mg "EvaluationCode" = some (.ref CE)
  g_InterleavedCode : mg "InterleavedCode" = some (.ref CI)
  fF_prime : NoAttr K CF "prime"
  fF_modulus : NoAttr K CF "modulus"
  fF_degree : NoAttr K CF "degree"
  fF_order : NoAttr K CF "order"
  fE_field : NoAttr K CE "field"
  fE_length : NoAttr K CE "length"
  fE_dimension : NoAttr K CE "dimension"
  fE_points : NoAttr K CE "_points"
  fI_code : NoAttr K CI "code"
  fI_depth : NoAttr K CI "depth"
  fI_field : NoAttr K CI "field"
  fI_length : NoAttr K CI "length"
  fI_burst_mended : NoAttr K CI "burst_mended"
  fI_burst_filled : NoAttr K CI "burst_filled"
theorem pe_globI {X : Cx} {x : Str} {i : Int} {pos : Pos} (hg : Gl X x) (hm : ∃ t, X.mg x = some (.int i t)) (hd : (x == ("__debug__" : Str)) = false := by decide) : PE X (.Name x pos) (tC (.int i)) := by
  obtain ⟨t, h⟩ := hm
  exact pe_glob hg h ⟨t, rfl⟩ hd

theorem pe_fldK {X : Cx} (K : PySem.W.Frag) {e : Expr} {f : Str} {pos : Pos} {ta : TE} (hK : X.K = K) (he : PE X e ta) (hb : attributeBase e f X.env (eval e X.env) = eval e X.env) : PE X (.Attribute e f pos) (tFld K ta f) := by
  subst hK
  exact pe_fld he hb

theorem ix_listK {X : Cx} (K : PySem.W.Frag) (hK : X.K = K) : IxR X (rIxL K) := by
  subst hK
  exact ix_list
theorem ix_tupK {X : Cx} (K : PySem.W.Frag) (hK : X.K = K) : IxR X (rIxT K) := by
  subst hK
  exact ix_tup
theorem pi_listK {X : Cx} (K : PySem.W.Frag) {tg l : Expr} {tl : TE} (hK : X.K = K) (hl : PE X l tl) : PI X tg l (iList K tl) := by
  subst hK
  exact pi_list hl
def rLenQ (K : PySem.W.Frag) : List V → Hp → VK → Prop := fun xs H Q => ∃ p ys, xs = [.ref p] ∧ (SqL K H p ys ∨ SqT K H p ys) ∧ Q (.int ys.length) H
theorem call_len_seqK {X : Cx} (K : PySem.W.Frag) (hK : X.K = K) : CallR X (.builtin "len") (rLenQ K) := by
  subst hK
  exact call_len_seq

/-! ### the forms of promises: what a caller gets -/
def GV (H : Hp) (Q : VK) (v : V) : Prop := ∀ H', Same H H' → Q v H'
def GL (H : Hp) (Q : VK) (xs : List V) : Prop := ∀ H' p, Same H H' → H p = none → H' p = some (.lst xs) → Q (.ref p) H'
/-- a new tuple of two new lists -/
def G2 (H : Hp) (Q : VK) (xs ys : List V) : Prop := ∀ H' p a b, Same H H' → H' p = some (.tup [.ref a, .ref b]) → H' a = some (.lst xs) → H' b = some (.lst ys) → Q (.ref p) H'
/-- a list or a tuple to be read -/
def Sq (K : PySem.W.Frag) (H : Hp) (a : Addr) (xs : List V) : Prop := SqL K H a xs ∨ SqT K H a xs
theorem sqTS {K : PySem.W.Frag} {H H' : Hp} {a : Addr} {xs : List V} (e : Same H H') (h : SqT K H a xs) : SqT K H' a xs := by
  rcases h with (h | ⟨o, h⟩) | h
  · exact .inl (.inl (e _ _ h))
  · exact .inl (.inr ⟨o, e _ _ h⟩)
  · exact .inr h
theorem sqS {K : PySem.W.Frag} {H H' : Hp} {a : Addr} {xs : List V} (e : Same H H') (h : Sq K H a xs) : Sq K H' a xs :=
  h.imp (fun h => e.seq h) fun h => sqTS e h
theorem newS {H : Hp} {p : Addr} {o : HO} (h : H p = none) : Same H (upd H p o) := fun a u e => by
  rw [upd_ne (ne_of_none e h)]
  exact e
/-- an object that H does not know may change -/
theorem mutS {H H' : Hp} {p : Addr} {o : HO} (e : Same H H') (h : H p = none) : Same H (upd H' p o) := fun a u ha => by
  rw [upd_ne (ne_of_none ha h)]
  exact e a u ha
theorem small {n : Nat} (h : n ≤ 100000) : n ≤ sizeLine := Nat.le_trans h (by decide)
theorem smallLt {n : Nat} (h : n < 100000) : n < sizeLine := Nat.lt_of_lt_of_le h (by decide)
/-- the ints of a list -/
abbrev vi (ns : List Int) : List V := ns.map V.int
theorem vi_get {ns : List Int} {i : Nat} {x : V} (h : (vi ns)[i]? = some x) : ∃ z, ns[i]? = some z ∧ x = .int z := by
  rw [List.getElem?_map] at h
  cases e : ns[i]? with
  | none => rw [e] at h; cases h
  | some z => rw [e] at h; exact ⟨z, rfl, (Option.some.inj h).symm⟩
theorem vi_of {ns : List Int} {i : Nat} {z : Int} (h : ns[i]? = some z) : (vi ns)[i]? = some (.int z) := by
  rw [List.getElem?_map, h]; rfl

/-! ### places, equality -/
theorem at_nat {xs : List V} {j : Nat} {v : V} (h : xs[j]? = some v) : atI xs ((j : Nat) : Int) = some v := atI_nat h
theorem vi_len (ns : List Int) : (vi ns).length = ns.length := List.length_map _
theorem vi_at {ns : List Int} {j : Nat} (h : j < ns.length) : (vi ns)[j]? = some (.int (ns.getD j 0)) := by
  rw [vi_of (z := ns.getD j 0)]
  rw [List.getD_eq_getElem?_getD, List.getElem?_eq_getElem h]; rfl
theorem vi_set (ns : List Int) (j : Nat) (z : Int) : (vi ns).set j (.int z) = vi (ns.set j z) := (List.map_set ..).symm
theorem vi_snoc (ns : List Int) (z : Int) : vi ns ++ [.int z] = vi (ns ++ [z]) := by simp [vi]
theorem ixN_nat {n j : Nat} (h : j < n) : ixN n ((j : Nat) : Int) = some j := by
  unfold ixN
  rw [if_pos (by omega), if_pos (by omega)]
  simp
theorem ixN_of {n j : Nat} {z : Int} (e : z = ((j : Nat) : Int)) (h : j < n) : ixN n z = some j := by rw [e]; exact ixN_nat h
theorem at_neg1 {xs : List V} {v : V} (h : xs[xs.length - 1]? = some v) : atI xs (-1) = some v := by
  have hl : xs.length - 1 < xs.length := (List.getElem?_eq_some_iff.mp h).1
  unfold atI ixN
  rw [if_neg (by decide), if_pos (by omega)]
  have e : ((-1 : Int) + (xs.length : Nat)).toNat = xs.length - 1 := by omega
  rw [e]; exact h
theorem ix_sq {K : PySem.W.Frag} {H : Hp} {p : Addr} {xs : List V} {i : Int} {v : V} {Q : VK} (h : Sq K H p xs) (ha : atI xs i = some v) (q : Q v H) : rIx K (.ref p) (.int i) H Q := by
  rcases h with h | h
  · exact .inl ⟨p, xs, i, v, rfl, rfl, h, ha, q⟩
  · exact .inr (.inl ⟨p, xs, i, v, rfl, rfl, h, ha, q⟩)
theorem dp_ints {K : PySem.W.Frag} {H : Hp} : ∀ ns : List Int, DpAll K H (vi ns) (ns.map PyData.int)
  | [] => .nil
  | n :: ns => .cons (.int n) (dp_ints ns)
theorem canLay_ints : ∀ ns : List Int, PyData.canLayAll0 (ns.map PyData.int) = true
  | [] => by simp [PyData.canLayAll0]
  | n :: ns => by simp [PyData.canLayAll0, PyData.canLay0, canLay_ints ns]
theorem depth_ints : ∀ ns : List Int, PyData.depthAll (ns.map PyData.int) ≤ 1
  | [] => by simp [PyData.depthAll]
  | n :: ns => by
    have h1 := depth_ints ns
    simp only [List.map_cons, PyData.depthAll, PyData.depth]
    omega
theorem shaped_ints (ns : List Int) : SeqAt.shaped (.list (ns.map PyData.int)) = true := by
  have h1 := depth_ints ns
  have h2 : PyData.depth (.list (ns.map PyData.int)) ≤ 64 := by simp only [PyData.depth]; omega
  show (PyData.canLay0 (.list (ns.map PyData.int)) && decide (PyData.depth (.list (ns.map PyData.int)) ≤ 64)) = true
  rw [Bool.and_eq_true]
  exact ⟨by simp only [PyData.canLay0]; exact canLay_ints ns, decide_eq_true h2⟩
theorem eqv_ints (ns ms : List Int) : PyData.eqv (.list (ns.map PyData.int)) (.list (ms.map PyData.int)) = decide (ns = ms) := by
  rw [PyData.eqv]; exact PySem.W.ked_eqvAll ns ms
/-- two lists of ints compared -/
theorem eq_lists {K : PySem.W.Frag} {H : Hp} {p q : Addr} {ns ms : List Int} {Q : VK} (h1 : SqL K H p (vi ns)) (h2 : SqL K H q (vi ms)) (k : Q (.bl (decide (ns = ms))) H) : rEqD K (.ref p) (.ref q) H Q :=
  ⟨_, _, .lst h1 (dp_ints ns), .lst h2 (dp_ints ms), shaped_ints ns, shaped_ints ms, by rw [eqv_ints]; exact k⟩

/-- a def that its callers may call: it stands at a name and keeps its promise -/
structure Cal (P : Program) (w : World) (K : PySem.W.Frag) (mg : Str → Option Value) (base : Heap) (CX : CXT) (x : Str) (ps : List Str) (k : Nat) (sp : Sp) : Prop where
  ex : ∃ (f : Addr) (fd : FuncData), FnOk P w K mg base CX k f fd ps sp ∧ mg x = some (.ref f) ∧ PySem.W.keepIn K (.ref f) = true ∧ Binds K fd ps []
/-- a method -/
structure CalM (P : Program) (w : World) (K : PySem.W.Frag) (mg : Str → Option Value) (base : Heap) (CX : CXT) (C : Addr) (x : Str) (ps : List Str) (k : Nat) (sp : Sp) : Prop where
  ex : ∃ (f : Addr) (fd : FuncData), FnOk P w K mg base CX k f fd ps sp ∧ Meth K C x f ∧ Binds K fd ps []
end NW

set_option Elab.async false
set_option linter.all false
set_option maxRecDepth 100000
set_option maxHeartbeats 4000000
/-! Two rules that the hand layer lacks: a slice with a step (xs[k::d]), and a list comprehension whose element is a call that may raise. -/
namespace NW
open PySem PySem.Spec PyProof.Rows L2

/-! ### xs[k::d] -/
theorem pick_step (its : List Value) {k d n : Nat} (hl : its.length = d * n) (hk : k < d) :
    slicePick its.toArray (some (k : Int)) none (some (d : Int)) = ((List.range n).filterMap fun t => its[k + d * t]?).toArray := by
  have hd : (d : Int) > 0 := by omega
  have hb : sliceBounds (some (k : Int)) none (some (d : Int)) its.toArray.size = (((min k (d * n) : Nat) : Int), ((d * n : Nat) : Int), (d : Int)) := by
    simp only [sliceBounds, Option.getD_some, List.size_toArray, hl]
    rw [if_pos hd, if_neg (show ¬ ((k : Int) < 0) by omega), if_pos hd]
    congr 1
    omega
  unfold slicePick
  rw [hb]
  have hr : sliceRange ((min k (d * n) : Nat) : Int) ((d * n : Nat) : Int) (d : Int) = (List.range n).map fun t => k + d * t := by
    unfold sliceRange
    rw [if_pos hd]
    rcases Nat.eq_zero_or_pos n with h0 | h0
    · subst h0
      simp
    · have hkn : k < d * n := Nat.lt_of_lt_of_le hk (Nat.le_mul_of_pos_right d h0)
      have hmin : min k (d * n) = k := Nat.min_eq_left (Nat.le_of_lt hkn)
      rw [hmin, if_pos (show (k : Int) < ((d * n : Nat) : Int) by omega)]
      have hc : (((d * n : Nat) : Int) - (k : Nat) + (d : Nat) - 1) / (d : Int) = (n : Int) := by
        have e : (((d * n : Nat) : Int) - (k : Nat) + (d : Nat) - 1) = ((d - 1 - k : Nat) : Int) + (n : Int) * (d : Int) := by
          have e1 : ((d * n : Nat) : Int) = (n : Int) * (d : Int) := by rw [Int.natCast_mul, Int.mul_comm]
          rw [e1]
          omega
        rw [e, Int.add_mul_ediv_right _ _ (by omega), Int.ediv_eq_zero_of_lt (by omega) (by omega)]
        omega
      rw [hc]
      show (List.range ((n : Int)).toNat).map _ = _
      rw [Int.toNat_natCast]
      apply List.map_congr_left
      intro t _
      have e2 : ((k : Nat) : Int) + (d : Int) * ((t : Nat) : Int) = ((k + d * t : Nat) : Int) := by
        rw [Int.natCast_add, Int.natCast_mul]
      rw [e2, Int.toNat_natCast]
  show ((sliceRange _ _ _).filterMap _).toArray = _
  rw [hr, List.filterMap_map]
  have e : ((fun j : Nat => its.toArray[j]?) ∘ fun t => k + d * t) = fun t => its[k + d * t]? := by
    funext t
    simp
  exact congrArg (fun f => ((List.range n).filterMap f).toArray) e
theorem vals_cut {xs : List V} {its : List Value} (r : Vals xs its) {k d n : Nat} (hl : xs.length = d * n) (hk : k < d) : ∀ m, m ≤ n → Vals (cutSt .non xs k d m) ((List.range m).filterMap fun t => its[k + d * t]?) := by
  intro m
  induction m with
  | zero => intro _; exact .nil
  | succ m ih =>
    intro hm
    have hlt : k + d * m < xs.length := by
      rw [hl]
      calc k + d * m < d + d * m := by omega
        _ = d * (m + 1) := by rw [Nat.mul_succ, Nat.add_comm]
        _ ≤ d * n := Nat.mul_le_mul_left d hm
    obtain ⟨u, hu, ru⟩ := r.get (List.getElem?_eq_getElem hlt)
    unfold cutSt at ih ⊢
    rw [List.range_succ, List.map_append, List.filterMap_append]
    refine (ih (by omega)).append ?_
    have e1 : [m].filterMap (fun t => its[k + d * t]?) = [u] := by simp [hu]
    rw [e1]
    refine .cons ?_ .nil
    show L2.RelV (xs.getD (k + d * m) .non) u
    rw [List.getD_eq_getElem?_getD, List.getElem?_eq_getElem hlt]
    exact ru
section
variable {X : Cx} {e lo st : Expr} {te tl ts : TE} {pos p2 : Pos}
def tSlSt (K : PySem.W.Frag) (te tl ts : TE) : TE := fun σ H Q => te σ H fun x H1 => tl σ H1 fun y H2 => ts σ H2 fun z H3 => ∃ (a : Addr) (xs : List V) (k d n : Nat), x = .ref a ∧ y = .int k ∧ z = .int d ∧ SqL K H3 a xs ∧ xs.length = d * n ∧ k < d ∧
  ∀ p, H3 p = none → Q (.ref p) (upd H3 p (.lst (cutSt .non xs k d n)))
theorem pe_sliceStep (K : PySem.W.Frag) (hK : X.K = K) (he : PE X e te) (hl : PE X lo tl) (hs : PE X st ts) : PE X (.Subscript e (.Slice (some lo) none (some st) p2) pos) (tSlSt K te tl ts) := by
  subst hK
  refine ⟨fun pins s σ H Q I h => ?_⟩
  refine Subscript_ (thn (he.run pins s σ H _ I h) fun v s1 ⟨x, H1, I1, r1, q1⟩ => ?_)
  refine wpAny_Slice ?_
  rw [evalPart_some]
  refine thn (hl.run pins s1 σ H1 _ I1 q1) fun vl s2 ⟨y, H2, I2, r2, q2⟩ => ?_
  rw [evalPart_none]
  refine wpAny_pure ?_
  rw [evalPart_some]
  refine thn (hs.run pins s2 σ H2 _ I2 q2) fun vs s3 ⟨z, H3, I3, r3, q3⟩ => ?_
  obtain ⟨a, xs, k, d, n, rfl, rfl, rfl, hx, hlen, hk, q⟩ := q3
  obtain ⟨t2, rfl⟩ := r2
  obtain ⟨t3, rfl⟩ := r3
  cases r1
  have I4 : Inv X pins σ H3 { s3 with heap := s3.heap.push { cls := .type "slice", data := .fields #[.int k t2, .none, .int d t3] } } := I3.kept (t' := s3.toks) fun b ob q => Heap.get?_push_of_some _ q
  obtain ⟨its, r, ht, hz⟩ := I4.list hx
  show wpAny (model X.prog X.w) X.A (subscriptTail e (.Slice (some lo) none (some st) p2) (.ref a) (.ref s3.heap.objs.size)) (EP X pins σ Q) X.xe { s3 with heap := s3.heap.push { cls := .type "slice", data := .fields #[.int k t2, .none, .int d t3] } }
  refine tail_any (ops := [.ref a, .ref s3.heap.objs.size]) ht.isList.typeIs slot_list_getitem.lookup ?_ (by with_unfolding_all rfl)
  refine wpAny_getItem_list_slice ht.isList (Heap.IsSliceOf.new ..) (.int _ _) .none (.int _ _) (by intro z; injection z with z; omega) ?_ (by rw [List.size_toArray, ← r.length]; exact hz)
  rw [pick_step its (by rw [← r.length]; exact hlen) hk]
  have hn : n ≤ xs.length := by rw [hlen]; exact Nat.le_mul_of_pos_left n (by omega)
  refine ⟨.ref (s3.heap.push { cls := .type "slice", data := .fields #[.int k t2, .none, .int d t3] }).objs.size, _, I4.laid (t' := s3.toks) (o := .lst (cutSt .non xs k d n)) (fun b ob q => Heap.get?_push_of_some _ q) (Nat.le_refl _) ?_, rfl, q _ (I4.hok.fresh (Nat.le_refl _))⟩
  exact ⟨by rw [cutSt_length]; exact Nat.le_trans hn hz, _, 0, vals_cut r hlen hk n (Nat.le_refl _), Heap.get?_push_size _ rfl⟩
end
end NW

set_option Elab.async false
set_option linter.all false
set_option maxRecDepth 100000
set_option maxHeartbeats 4000000
/-! [f(x) for x in xs] where the call f(x) may raise: the exception goes on in the def's own frame. -/
namespace NW
open PySem PySem.Spec PyProof.Rows L2

/-- what is noted of an exception that a call within the block Y lets out -/
def BX (Y : Cx) (E : XK) : Value → Shared → Prop := fun u s' => ∃ (pins : List (Addr × Obj)) (σ : L2.St) (H : Hp) (s : Shared), L2.Inv Y pins σ H s ∧ L2.CX Y.prog Y.w Y.stack H s E u s'
theorem passB {Y : Cx} {E : XK} : Passes (L2.CX Y.prog Y.w) (Y.wish (BX Y E)) E := fun pins σ H s _ _ I c => ⟨pins, σ, H, s, I.unwish, c⟩

section
variable {X : Cx} {pins : List (Addr × Obj)} {σ : L2.St} {H3 : Hp} {s3 : Shared} {W : WX} {E : XK} {scope : Scope} {ce : Env} {fp : List Addr}
/-- out of the block: noted in the def's frame, the block let go, on it goes -/
theorem block_fails (I3 : L2.Inv X pins σ H3 s3) (hs : X.stack = X.env :: X.outer) (hf : X.env.frame = some X.env.locals) (tk : Takes X W) (hW : ∀ cls d σ H, E cls d H → W cls d σ H)
    (hce : ce.frame = X.env.frame) (hC : s3.heap.objs.size ≤ ce.locals)
    (hfp : ∀ b ∈ fp, (b ∈ X.ex ∨ X.s_0.heap.objs.size ≤ b) ∧ b ≠ X.env.locals ∧ (∀ x c, X.env.cells.lookup x = some c → c ≠ b) ∧ ∀ p ∈ X.pn ++ pins, p.1 ≠ b) (hfs : ∀ b ∈ fp, b ≠ ce.locals)
    {u : Value} {s' : Shared} (x : BX (X.blk s3 H3 scope ce fp) E u s') : notedBy (model X.prog X.w) X.A ce (CompFails (model X.prog X.w) X.A X.xe ce) u s' := by
  obtain ⟨pinsB, σB, H', s, I, c⟩ := x
  obtain ⟨a, B, H'', cls, d, rfl, fl, hok, ub, na, os, ag, hE⟩ := c
  have hfr : X.A.frames = some (X.env :: X.outer) := by rw [I3.ok.frames, hs]
  have fl' : HandSPX.FlyingZ B (X.env :: X.outer) a (Zc cls d) s'.heap := by rw [← hs]; exact fl
  -- C, the block's own dict
  generalize hCe : ce.locals = C at *
  have nCf : C ∉ frs X.stack := fun hm => by
    obtain ⟨_, o, ho, _⟩ := I3.stack.mem hm
    exact absurd (Nat.lt_of_lt_of_le (Heap.lt_size ho) hC) (Nat.lt_irrefl _)
  have fresh3 : ∀ b o, s3.heap.get? b = some o → b ≠ C := fun b o e z => absurd (Nat.lt_of_lt_of_le (Heap.lt_size e) (by rw [z]; exact hC)) (Nat.lt_irrefl _)
  have hC0 : H' C = none := by
    have z : H' ce.locals = none := I.free
    rwa [hCe] at z
  obtain ⟨mC, hn0, _⟩ := I.loc
  have hn : s.heap.Ns C mC := by
    have z : s.heap.Ns ce.locals mC := hn0
    rwa [hCe] at z
  obtain ⟨oC, esC, epC, hoC, hdC, restC⟩ := id hn
  have hBC : B.get? C = some oC := ub.keep C oC hoC hC0 nCf
  have hn' : s'.heap.Ns C mC := ⟨oC, esC, epC, fl.1 C oC hBC, hdC, restC⟩
  have hC2 : H'' C = none := ub.free C oC hoC hC0
  show wpAny _ _ (noteFrame (.ref a) ce) _ _ s'
  rw [noteFrame_env _ hce]
  refine HandSPX.looks_onZ Zc.steady hfr hf fl' fun h1 held up1 => ?_
  show CompFails _ _ _ ce (.ref a) { s' with heap := h1 }
  unfold CompFails
  rw [hCe]
  refine ⟨mC, up1.ns hn', fun h2 m2 hn2 hs2 => ?_⟩
  obtain ⟨k1, hen, fr1, tr1⟩ := held
  have hs2' : ∀ b, b ≠ C → h2.get? b = h1.get? b := hs2.2
  -- the ground without the block
  obtain ⟨B', g1, g2⟩ := restrict B fun b => decide (b ≠ C)
  have g1' : ∀ b, b ≠ C → B'.get? b = B.get? b := fun b hb => g1 b (decide_eq_true hb)
  have g2' : B'.get? C = none := g2 C (by simp)
  have b2 : B'.StaysIn h2 := fun b o e => by
    have hb : b ≠ C := fun z => by rw [z, g2'] at e; cases e
    rw [hs2' b hb]
    exact k1 b o ((g1' b hb).symm.trans e)
  have hen' : B'.get? a = none := by
    by_cases hb : a = C
    · rw [hb]; exact g2'
    · rw [g1' a hb]; exact hen
  have fr2 : h2.FunFrames B' (X.env :: X.outer) := by
    refine funFrames_none (Heap.FunFrames.sameBut hs2 hn2 fr1) fun L hL => ?_
    by_cases hb : L = C
    · rw [hb]; exact g2'
    · rw [g1' L hb]
      have z : L ∈ (X.env :: X.outer).filterMap (·.frame) := hL
      exact (fr1.mem z).1
  obtain ⟨oe, vs, Tt, oT, ts, he, hz, hd, hv1, hnT, hTe, hT, hdT, h3⟩ := tr1
  have n1 := up1.ns hn'
  have aC : a ≠ C := fun z => by
    obtain ⟨o, es, ep, ho, hdd, _⟩ := id n1
    rw [← z, he] at ho
    cases ho
    rw [hd] at hdd
    cases hdd
  have TC : Tt ≠ C := fun z => by
    obtain ⟨o, es, ep, ho, hdd, _⟩ := id n1
    rw [← z, hT] at ho
    cases ho
    rw [hdT] at hdd
    cases hdd
  have hnT' : B'.get? Tt = none := by rw [g1' Tt TC]; exact hnT
  have held2 : HandSPX.HeldZ B' (X.env :: X.outer) a (Zc cls d) X.env.locals h2 :=
    ⟨b2, hen', fr2, oe, vs, Tt, oT, ts, (hs2' a aC).trans he, hz, hd, hv1, hnT', hTe, (hs2' Tt TC).trans hT, hdT, h3⟩
  unfold PySem.passOn
  refine wpAny_bind (wpAny_field ((hs2' a aC).trans he) hd hv1 ?_)
  rw [if_neg (show ¬ ((Value.ref Tt == Value.none) = true) from by simp), hce, hf]
  refine wpAny_bind (HandSPX.setFlight_onZ held2 fun h4 held4 up4 => wpAny_throw ?_)
  -- what the def gets
  refine tk _ _ ?_
  obtain ⟨G, q1, q2⟩ := restrict s'.heap fun b => (B'.get? b).isSome || decide (b ∈ frs X.stack)
  have gB : ∀ b o, B'.get? b = some o → G.get? b = some o := fun b o e => by
    have hb : b ≠ C := fun z => by rw [z, g2'] at e; cases e
    rw [q1 b (by simp [e])]
    exact fl.1 b o ((g1' b hb).symm.trans e)
  have gF : ∀ b, b ∈ frs X.stack → G.get? b = s'.heap.get? b := fun b hb => q1 b (by simp [hb])
  have og : ∀ b o, G.get? b = some o → s'.heap.get? b = some o ∧ ((∃ o', B'.get? b = some o') ∨ b ∈ frs X.stack) := fun b o e => by
    cases q : ((B'.get? b).isSome || decide (b ∈ frs X.stack)) with
    | false => rw [q2 b q] at e; cases e
    | true =>
      rw [q1 b q] at e
      refine ⟨e, ?_⟩
      rcases Bool.or_eq_true_iff.mp q with z | z
      · exact .inl (Option.isSome_iff_exists.mp z)
      · exact .inr (of_decide_eq_true z)
  have gB3 : ∀ b o, b ≠ C → B.get? b = some o → G.get? b = some o := fun b o hb e => gB b o ((g1' b hb).trans e)
  have hokG : HOk X.prog X.w H'' G := fun b o e => (hok b o e).stay (fun b1 w1 hb1 r => gB3 b1 w1 (fun z => by
      rw [z] at hb1
      rcases hb1 with hb1 | hb1
      · rw [← hb1, hC2] at e; cases e
      · rw [hC2] at hb1; cases hb1) r) (fun _ r => r) fun _ _ r => r
  have ib : Un (frs X.stack) fp H3 H' s3.heap s.heap := I.base
  have J : L2.Inv X pins σ H'' { s with heap := G, gens := s'.gens, drawn := s'.drawn, toks := s'.toks } := by
    refine I3.call' (ch := fp) (show s.os = s3.os from I.os) ⟨fun b o e n hb hx => ?_, fun b o e n hb hx => ?_, fun b o e n hx => ?_, fun b o e hx => ?_, fun b xs e => ub.tups b xs (ib.tups b xs e), fun b o xs e => ub.frzs b o xs (ib.frzs b o xs e), fun b ps e => ?_⟩ hokG ag hfp
    · exact gB3 b o (fresh3 b o e) (ub.keep b o (ib.keep b o e n hb hx) (ib.free b o e n hx) hb)
    · obtain ⟨sl, e1⟩ := ib.slot b o e n hb hx
      obtain ⟨sl', e2⟩ := ub.slot b _ e1 hb
      exact ⟨sl', (gF b hb).trans e2⟩
    · obtain ⟨o', e1⟩ := ib.there b o e hx
      exact ub.free b o' e1 (ib.free b o e n hx)
    · obtain ⟨o', e1⟩ := ib.there b o e hx
      by_cases hb : b ∈ frs X.stack
      · obtain ⟨sl', e2⟩ := ub.slot b _ e1 hb
        exact ⟨_, (gF b hb).trans e2⟩
      · obtain ⟨o2, e2⟩ := ub.there b o' e1 hb
        exact ⟨o2, gB3 b o2 (fresh3 b o e) e2⟩
    · obtain ⟨m1, e1⟩ := ib.tbls b ps e
      obtain ⟨m2, e2⟩ := ub.tbls b _ e1
      exact ⟨m1 ++ m2, by rw [e2, Array.append_assoc]⟩
  refine ⟨a, B', _, pins, σ, H'', cls, d, rfl, J, fun b o e hb => ?_, ?_, .inr (.inr (by rw [hs]; exact held4)), na, os, ag, hW _ _ _ _ hE⟩
  · obtain ⟨e', h⟩ := og b o e
    rcases h with ⟨o', h⟩ | h
    · have hbC : b ≠ C := fun z => by rw [z, g2'] at h; cases h
      have z := fl.1 b o' ((g1' b hbC).symm.trans h)
      rw [e'] at z; cases z
      exact h
    · exact absurd h hb
  · -- up to slots
    have u1 : G.UpToSlots h2 := fun b o e hnf => by
      obtain ⟨e', h⟩ := og b o e
      have hbC : b ≠ C := by
        rcases h with ⟨o', h⟩ | h
        · exact fun z => by rw [z, g2'] at h; cases h
        · exact fun z => nCf (by rw [← z]; exact h)
      obtain ⟨sl, e1⟩ := up1 b o e' hnf
      exact ⟨sl, (hs2' b hbC).trans e1⟩
    exact u1.trans up4
/-- [elt for target in iter], elt a call that may raise; its reading is tLc's -/
theorem pe_lcX {elt tg iter : Expr} {own : List (Str × Nat)} {pos : Pos} {wi : TI} {g : TG} {te : TE} (hs : X.stack = X.env :: X.outer) (hf : X.env.frame = some X.env.locals) (tk : Takes X W) (hW : ∀ cls d σ H, E cls d H → W cls d σ H)
    (hc : X.calm = true) (hN : X.N.Nodup) (hi : PI X tg iter wi) (ok : BlkOk X.N X.env.scope scope own)
    (hg : ∀ (s : Shared) (H : Hp) (C : Addr) (cl : List (Str × Addr)) (fp : List Addr), PG (X.blk s H scope (compEnvC scope cl C X.env) fp) tg g)
    (he : ∀ (s : Shared) (H : Hp) (C : Addr) (cl : List (Str × Addr)) (fp : List Addr), PE ((X.blk s H scope (compEnvC scope cl C X.env) fp).wish (BX (X.blk s H scope (compEnvC scope cl C X.env) fp) E)) elt te)
    (hst : ∀ x, foldedSetIterable iter X.env x = pure x := by intro _; rfl) :
    PE X (.ListComp elt [⟨tg, iter, [], 0⟩] scope pos) (tLc wi g tYes te (own.map (·.2))) := by
  refine ⟨fun pins s σ H Q I h => ?_⟩
  rw [eval_ListComp]
  have hfree : ∀ y ∈ scope.names, y.2 = .free → ∃ c, X.env.cells.lookup y.1 = some c := fun y hy e => (ok.free y hy e).elim (fun k => I.ok.has _ (.inl k)) fun k => I.ok.has _ (.inr k)
  refine comprehension_at (use := none) rfl hst (closure_ok hfree) ok.kind (fun y hy e => by rw [ok.uniq y hy, e]) (thn (hi.run pins s σ H _ I h) fun xv s1 hx => thn hx fun itv s2 h2 => ?_)
  obtain ⟨it, fp, tn, J, H2, rfl, I2, T, st2, f2, q⟩ := h2
  refine wpAny_newObj_type (newEnv_comp ?_) (Nat.zero_le _)
  have hDn : H2 s2.heap.objs.size = none := I2.hok.fresh (Nat.le_refl _)
  obtain ⟨W', ⟨m0, w0⟩, turn⟩ := q _ hDn
  generalize hD : s2.heap.objs.size = D at *
  -- the new list stands at D
  generalize hs3 : ({ s2 with heap := s2.heap.push { cls := .type "list", data := .seq ([] : List Value).toArray } } : Shared) = s3
  have hp3 : s3.heap = s2.heap.push { cls := .type "list", data := .seq ([] : List Value).toArray } := by rw [← hs3]
  have I3 : L2.Inv X pins σ (upd H2 D (.lst [])) s3 := by
    rw [← hs3]
    refine I2.laid (t' := s2.toks) (fun b o e => Heap.get?_push_of_some _ e) (Nat.le_of_eq hD) ⟨Nat.zero_le _, [], 0, .nil, ?_⟩
    rw [← hD]
    exact Heap.get?_push_size _ rfl
  have old : ∀ b ∈ fp, b < s2.heap.objs.size := fun b hb => by
    obtain ⟨o, e, _⟩ := T.obj _ _ st2 b hb
    exact Heap.lt_size e
  have f3 : ∀ b ∈ fp, FpOk X pins (upd H2 D (.lst [])) b ∧ b < s3.heap.objs.size := fun b hb => by
    have hlt := old b hb
    refine ⟨⟨?_, (f2 b hb).2⟩, by rw [hp3, Heap.size_push]; exact Nat.lt_succ_of_lt hlt⟩
    rw [upd_ne (by rw [← hD]; exact Nat.ne_of_lt hlt)]
    exact (f2 b hb).1
  have st3 : tn 0 s3.heap := T.keep _ _ _ st2 fun b _ o e => by rw [hp3]; exact Heap.get?_push_of_some _ e
  have I4 := block_start I3 ok hN f3
  have pg := hg s3 (upd H2 D (.lst [])) s3.heap.objs.size (cellsFrom (s3.heap.objs.size + 1) scope.names (cloFrom X.env.cells scope.names [])) fp
  have pe := he s3 (upd H2 D (.lst [])) s3.heap.objs.size (cellsFrom (s3.heap.objs.size + 1) scope.names (cloFrom X.env.cells scope.names [])) fp
  have hff : ∀ b ∈ fp, (b ∈ X.ex ∨ X.s_0.heap.objs.size ≤ b) ∧ b ≠ X.env.locals ∧ (∀ x c, X.env.cells.lookup x = some c → c ≠ b) ∧ ∀ p ∈ X.pn ++ pins, p.1 ≠ b := fun b hb =>
    ⟨(f3 b hb).1.2.2.2.1, (f3 b hb).1.2.1, (f3 b hb).1.2.2.2.2.1, (f3 b hb).1.2.2.2.2.2⟩
  show codeAny _ _ (.compStart (.ListComp elt [⟨tg, iter, [], 0⟩] scope pos) 0 (.ref it) (.ref D) (compEnvC scope (cellsFrom (s3.heap.objs.size + 1) scope.names (cloFrom X.env.cells scope.names [])) s3.heap.objs.size X.env))
    (compEnds (model X.prog X.w) X.A X.xe none (EP X pins σ Q) (.ref D) (compEnvC scope (cellsFrom (s3.heap.objs.size + 1) scope.names (cloFrom X.env.cells scope.names [])) s3.heap.objs.size X.env)) { s3 with heap := pushCells (s3.heap.push { cls := .type "dict", data := .dict #[] }) scope.names }
  have nfp : ∀ b ∈ fp, (upd H2 D (.lst [])) b = none := fun b hb => (f3 b hb).1.1
  generalize hce : compEnvC scope (cellsFrom (s3.heap.objs.size + 1) scope.names (cloFrom X.env.cells scope.names [])) s3.heap.objs.size X.env = ce at I4 pg pe ⊢
  have cL : ce.locals = s3.heap.objs.size := by subst hce; rfl
  have cF : ce.frame = X.env.frame := by subst hce; rfl
  generalize hH3 : upd H2 D (.lst []) = H3 at I3 I4 pg pe w0 nfp f3
  generalize hs4 : ({ s3 with heap := pushCells (s3.heap.push { cls := .type "dict", data := .dict #[] }) scope.names } : Shared) = s4 at I4 ⊢
  have st4 : tn 0 s4.heap := T.keep _ _ _ st3 fun b _ o e => by rw [← hs4]; exact pushCells_keeps _ _ _ _ (Heap.get?_push_of_some _ e)
  have stat : ∀ {σ' : L2.St} {H' : Hp} {s' : Shared}, L2.Inv (X.blk s3 H3 scope ce fp) [] σ' H' s' → (∀ b ∈ fp, H' b = none) → ∀ b ∈ fp, FpOk (X.blk s3 H3 scope ce fp) [] H' b := fun {σ' H' s'} I' hn b hb =>
    ⟨hn b hb, (I'.ok.exf b hb).1, I'.ok.exfs b hb, .inl hb, fun x c e => (I'.ok.exf b hb).2 x c e, fun p hp => absurd (show p ∈ ([] : List (Addr × Obj)) ++ [] from hp) (by simp)⟩
  have fails : ∀ u s', BX (X.blk s3 H3 scope ce fp) E u s' → notedBy (model X.prog X.w) X.A ce (fun e s' => compEnds (model X.prog X.w) X.A X.xe none (EP X pins σ Q) (.ref D) ce (.error e) s') u s' := fun u s' x =>
    block_fails I3 hs hf tk hW cF (Nat.le_of_eq cL.symm) hff (fun b hb => by rw [cL]; exact Nat.ne_of_lt (f3 b hb).2) x
  have loop : codeAny (model X.prog X.w) X.A (.compLoop (.ListComp elt [⟨tg, iter, [], 0⟩] scope pos) 0 (.ref it) (.ref D) ce) (compEnds (model X.prog X.w) X.A X.xe none (EP X pins σ Q) (.ref D) ce) s4 := by
    refine compLoop_any (fun n s' => ∃ i H', L2.Inv (X.blk s3 H3 scope ce fp) [] (wipe σ (own.map (·.2))) H' s' ∧ tn i s'.heap ∧ (∀ b ∈ fp, H' b = none) ∧ W' i n H') ?_ m0 ⟨0, H3, I4, st4, nfp, w0⟩
    rintro n s5 ⟨i, H5, I5, st5, n5, w5⟩
    rcases turn i n H5 w5 with ⟨stop, qq⟩ | ⟨go, Nx, hNx, step⟩
    · refine thnF (T.done (X.blk s3 H3 scope ce fp) rfl rfl rfl hc i [] s5 _ H5 (fun _ _ => False) I5 (stat I5 n5) st5 stop) fun r s6 ⟨hr, I6⟩ => ?_
      subst hr
      have I7 : L2.Inv X pins σ H5 s6 := I3.call' (ch := fp) I6.os I6.base I6.hok I6.bare hff
      have nC : H5 s3.heap.objs.size = none := by
        have z : H5 ce.locals = none := I6.free
        rwa [cL] at z
      obtain ⟨m, hn, _⟩ := I6.loc
      have hn : s6.heap.Ns ce.locals m := hn
      refine ⟨m, hn, fun h'' sb => ?_⟩
      rw [cL] at sb
      obtain ⟨f0, f1, f2', f3', f4, f5⟩ := I3.fpOk (Nat.le_refl _) nC
      exact ⟨.ref D, H5, I7.turned (t' := s6.toks) (fun b o hb e => (sb.2 b hb).trans e) f0 f1 f3' f4 f5, rfl, qq⟩
    · refine thnF (T.item (X.blk s3 H3 scope ce fp) rfl rfl rfl hc i [] s5 _ H5 (fun _ _ => False) I5 (stat I5 n5) st5 go) fun r s6 ⟨u, hr, h6⟩ => ?_
      subst hr
      refine thnF h6 fun _ s7 ⟨x, H7, I7, r7, y7, st7, n7⟩ => ?_
      have I7' := I7.pinned (stat I7 n7) (T.obj _ _ st7)
      refine thnF (pg.run _ s7 _ H7 x u _ I7' r7 (step x H7 y7)) fun _ s8 ⟨σ8, H8, I8, hw8, q8⟩ => ?_
      refine wpAny_tests_nil ?_
      rw [if_pos rfl]
      have q8' : te σ8 H8 fun y H4 => ∃ acc, H4 D = some (.lst acc) ∧ acc.length < sizeLine ∧ Nx (upd H4 D (.lst (acc ++ [y]))) := q8
      have fin : ∀ {s' : Shared} {H' : Hp}, L2.Inv (X.blk s3 H3 scope ce fp) ([] ++ pinsAt fp s7.heap) σ8 H' s' → Nx H' → ∃ m, m < n ∧ ∃ i H', L2.Inv (X.blk s3 H3 scope ce fp) [] (wipe σ (own.map (·.2))) H' s' ∧ tn i s'.heap ∧ (∀ b ∈ fp, H' b = none) ∧ W' i m H' := fun {s' H'} I' nx => by
        obtain ⟨m', hm, w'⟩ := hNx H' nx
        have pin' : ∀ b ∈ fp, ∀ o, s7.heap.get? b = some o → s'.heap.get? b = some o ∧ H' b = none := fun b hb o e =>
          let z := I'.pin (b, o) (List.mem_append_right _ (List.mem_append_right _ (mem_pinsAt hb e)))
          ⟨z.1, z.2.1⟩
        have hl : (wipe σ (own.map (·.2))).length = σ8.length := by rw [← hw8, wipe_length]
        refine ⟨m', hm, i + 1, H', (I'.unpinned (pins := [])).weak hl (fun j v e => ?_), T.keep _ _ _ st7 fun b hb o e => (pin' b hb o e).1, fun b hb => ?_, w'⟩
        · rw [← hw8] at e
          exact (wipe_some e).1
        · obtain ⟨o, e, _⟩ := T.obj _ _ st7 b hb
          exact (pin' b hb o e).2
      refine wpAny_mono (pe.run _ s8 σ8 H8 _ (I8.wish _) q8') (fun z s10 hz => ?_) fun u' s' hx => fails u' s' hx
      obtain ⟨yv, H10, I10, r10, acc, hD10, hz10, nx⟩ := hz
      exact app_ok (X := X.blk s3 H3 scope ce fp) I10.unwish hD10 hz10 r10 fun s11 I11 => fin I11 nx
  exact codeAny_compStart_list loop (T.self X.A 0 _ _ _ st4 loop)
end
end NW

set_option Elab.async false
set_option linter.all false
set_option maxRecDepth 100000
set_option maxHeartbeats 4000000
namespace NW
open PySem L2 GP
section
variable {P : Program} {w : World} {K : PySem.W.Frag} {mg : Str → Option Value} {base : Heap} {CF CE CI : Addr}

/-! ### int_power -/
abbrev s_int_power : Stmt := top 13
abbrev N_int_power : List Str := ["base", "exponent", "result", "_"]
theorem sc_int_power : FnScope N_int_power ["base", "exponent"] (defScope s_int_power) := ⟨rfl, rfl, rfl, by decide +kernel, rfl, by decide +kernel, by decide +kernel⟩
def sp_int_power : Sp := fun vs H Q _ => ∃ (b : Int) (e : Nat), vs = [.int b, .int e] ∧ -1000 ≤ b ∧ b ≤ 1000 ∧ e ≤ 1000 ∧ Q (.int (b ^ e)) H
theorem ok_int_power {f : Addr} {fd : FuncData} (F : Fun K "int_power" "int_power" s_int_power f fd) (T : Txt K mg CF CE CI) : FnOk P w K mg base CX0 1 f fd ["base", "exponent"] sp_int_power := by
  refine F.ok sc_int_power (fun vs H Q E h => ?_) (fun cdv A outer s H vs Q E hr h => ?_)
  · obtain ⟨b, e, rfl, _⟩ := h; rfl
  · obtain ⟨b, e, rfl, h1, h2, h3, k⟩ := h
    refine ⟨_, (pss_cons (ps_set (i := 2) sc_int_power.nd rfl (Or.inl rfl) pe_int)
      (pss_cons (ps_for PassesOwn.never rfl (pi_range1 (by rfl) T.n_range (pa_cons (pv 1) pa_nil)) (pg_name (i := 3) sc_int_power.nd rfl (Or.inl rfl)) (pss_one (ps_set (i := 2) sc_int_power.nd rfl (Or.inl rfl) (pe_op op_mul (pv 2) (pv 0)))))
      (pss_one (ps_ret (pv 2))))), ?_⟩
    refine ⟨_, rfl, _, rfl, by omega, by omega, ?_⟩
    rw [Int.toNat_natCast]
    refine for_range (fun i σ H' => ∃ v, σ = [some (.int b), some (.int e), some (.int (b ^ i)), v] ∧ H' = H) ⟨none, by rw [Int.pow_zero]; rfl, rfl⟩ ?_ ?_
    · rintro i σ H' hi ⟨v, rfl, rfl⟩
      exact ⟨_, rfl, _, rfl, _, _, rfl, rfl, .inr ⟨by omega, by omega⟩, _, by rw [Int.pow_succ]; rfl, rfl⟩
    · rintro σ H' ⟨v, rfl, rfl⟩
      exact ⟨_, rfl, k⟩

/-! ### is_prime -/
abbrev s_is_prime : Stmt := top 14
abbrev N_is_prime : List Str := ["n", "divisor"]
theorem sc_is_prime : FnScope N_is_prime ["n"] (defScope s_is_prime) := ⟨rfl, rfl, rfl, by decide +kernel, rfl, by decide +kernel, by decide +kernel⟩
def sp_is_prime : Sp := fun vs H Q _ => ∃ (n : Nat), vs = [.int n] ∧ 2 ≤ n ∧ n ≤ 1000 ∧ (∀ d : Int, 2 ≤ d → d < n → (n : Int) % d ≠ 0) ∧ Q (.bl true) H
theorem ok_is_prime {f : Addr} {fd : FuncData} (F : Fun K "is_prime" "is_prime" s_is_prime f fd) (T : Txt K mg CF CE CI) : FnOk P w K mg base CX0 1 f fd ["n"] sp_is_prime := by
  refine F.ok sc_is_prime (fun vs H Q E h => ?_) (fun cdv A outer s H vs Q E hr h => ?_)
  · obtain ⟨n, rfl, _⟩ := h; rfl
  · obtain ⟨n, rfl, h1, h2, h3, k⟩ := h
    refine ⟨_, (pss_cons (ps_if (pt_cmpR op_lt (pv 0) pe_int (nomark _)) (pss_one (ps_ret pe_bl)) pss_nil)
      (pss_cons (ps_for PassesOwn.never rfl (pi_range2 (by rfl) T.n_range (pa_cons pe_int (pa_cons (pv 0) pa_nil))) (pg_name (i := 1) sc_is_prime.nd rfl (Or.inl rfl)) (pss_one (ps_if (pt_cmpR op_eq (pe_op op_mod (pv 0) (pv 1)) pe_int (nomark _)) (pss_one (ps_ret pe_bl)) pss_nil)))
      (pss_one (ps_ret pe_bl)))), ?_⟩
    refine ⟨_, rfl, _, _, rfl, rfl, _, rfl, ite2 (fun c => absurd (of_decide_eq_true c) (by omega)) fun _ => ?_⟩
    refine ⟨_, rfl, _, _, rfl, ⟨by omega, by omega, by omega, by omega⟩, ?_⟩
    refine for_range (lo := 2) (n := ((n : Int) - 2).toNat) (fun i σ H' => ∃ v, σ = [some (.int n), v] ∧ H' = H) ⟨none, rfl, rfl⟩ ?_ ?_
    · rintro i σ H' hi ⟨v, rfl, rfl⟩
      refine ⟨_, rfl, _, rfl, _, _, rfl, rfl, (by show (0 : Int) < 2 + (i : Nat); omega), rfl, _, rfl, ite2 (fun c => ?_) fun _ => ⟨_, rfl, rfl⟩⟩
      have c' := of_decide_eq_true c
      injection c' with c'
      exact absurd c' (h3 _ (by omega) (by omega))
    · rintro σ H' ⟨v, rfl, rfl⟩
      exact k

/-! ### base_digits -/
abbrev s_base_digits : Stmt := top 15
abbrev N_base_digits : List Str := ["n", "base", "size", "digits", "_"]
theorem sc_base_digits : FnScope N_base_digits ["n", "base", "size"] (defScope s_base_digits) := ⟨rfl, rfl, rfl, by decide +kernel, rfl, by decide +kernel, by decide +kernel⟩
def sp_base_digits : Sp := fun vs H Q _ => ∃ (n b : Int) (k : Nat), vs = [.int n, .int b, .int k] ∧ 0 < b ∧ b ≤ 1000 ∧ k ≤ 1000 ∧ GL H Q (vi (bd n b k))
theorem ok_base_digits {f : Addr} {fd : FuncData} (F : Fun K "base_digits" "base_digits" s_base_digits f fd) (T : Txt K mg CF CE CI) : FnOk P w K mg base CX0 1 f fd ["n", "base", "size"] sp_base_digits := by
  refine F.ok sc_base_digits (fun vs H Q E h => ?_) (fun cdv A outer s H vs Q E hr h => ?_)
  · obtain ⟨n, b, k, rfl, _⟩ := h; rfl
  · obtain ⟨n, b, m, rfl, h1, h2, h3, k⟩ := h
    refine ⟨_, (pss_cons (ps_set (i := 3) sc_base_digits.nd rfl (Or.inl rfl) (pe_lst pa_nil))
      (pss_cons (ps_for PassesOwn.never rfl (pi_range1 (by rfl) T.n_range (pa_cons (pv 2) pa_nil)) (pg_name (i := 4) sc_base_digits.nd rfl (Or.inl rfl)) (pss_cons (ps_expr (pe_bm PySem.F.plainAttrs_list PySem.F.slot_list_append PySem.F.type_list_append mt_append (pv 3) (pa_cons (pe_op op_mod (pv 0) (pv 1)) pa_nil)))
      (pss_one (ps_set (i := 0) sc_base_digits.nd rfl (Or.inl rfl) (pe_op op_fdiv (pv 0) (pv 1))))))
      (pss_one (ps_ret (pv 3))))), ?_⟩
    refine ⟨Nat.zero_le _, fun p hp => ?_⟩
    refine ⟨_, rfl, _, rfl, by omega, by omega, ?_⟩
    rw [Int.toNat_natCast]
    refine for_range (fun i σ H' => ∃ v, σ = [some (.int (shr b i n)), some (.int b), some (.int m), some (.ref p), v] ∧ H' = upd H p (.lst (vi (bd n b i)))) ⟨none, rfl, rfl⟩ ?_ ?_
    · rintro i σ H' hi ⟨v, rfl, rfl⟩
      refine ⟨_, rfl, .inl ⟨rfl, _, SqL.of upd_same⟩, _, rfl, _, rfl, _, _, rfl, rfl, h1, p, _, _, rfl, rfl, upd_same, smallLt (by rw [vi_len, bd_length]; omega), ?_⟩
      refine ⟨_, rfl, _, rfl, _, _, rfl, rfl, ⟨h1, by omega⟩, _, rfl, ?_⟩
      rw [upd_upd, vi_snoc, ← bd_succ]
    · rintro σ H' ⟨v, rfl, rfl⟩
      exact ⟨_, rfl, k _ _ (newS hp) hp upd_same⟩

/-! ### integer_remainder -/
abbrev s_integer_remainder : Stmt := top 16
abbrev N_integer_remainder : List Str := ["prime", "items", "divisor", "size", "rest", "factor", "start", "k"]
theorem sc_integer_remainder : FnScope N_integer_remainder ["prime", "items", "divisor"] (defScope s_integer_remainder) := ⟨rfl, rfl, rfl, by decide +kernel, rfl, by decide +kernel, by decide +kernel⟩
def sp_integer_remainder (K : PySem.W.Frag) : Sp := fun vs H Q _ => ∃ (p : Int) (a b : Addr) (xs dv : List Int), vs = [.int p, .ref a, .ref b] ∧ 0 < p ∧ Sq K H a (vi xs) ∧ Sq K H b (vi dv) ∧ xs.length ≤ 1000 ∧ 1 ≤ dv.length ∧ dv.length ≤ 1000 ∧
  (∀ z ∈ dv, -1000 ≤ z ∧ z ≤ 1000) ∧ GL H Q (vi (irem p dv xs))
theorem ok_integer_remainder {f : Addr} {fd : FuncData} (F : Fun K "integer_remainder" "integer_remainder" s_integer_remainder f fd) (T : Txt K mg CF CE CI) : FnOk P w K mg base CX0 1 f fd ["prime", "items", "divisor"] (sp_integer_remainder K) := by
  refine F.ok sc_integer_remainder (fun vs H Q E h => ?_) (fun cdv A outer s H vs Q E hr h => ?_)
  · obtain ⟨p, a, b, xs, dv, rfl, _⟩ := h; rfl
  · obtain ⟨p, a, b, xs, dv, rfl, hp, ha, hb, hx, hd1, hd2, hdv, k⟩ := h
    refine ⟨_, (pss_cons (ps_set (i := 3) sc_integer_remainder.nd rfl (Or.inl rfl) (pe_op op_sub (pe_callB call_len_seq (by rfl) T.n_len bt_len (pa_cons (pv 2) pa_nil)) pe_int))
      (pss_cons (ps_set (i := 4) sc_integer_remainder.nd rfl (Or.inl rfl) (pe_callTy call_list_of (by rfl) T.n_list bt_list (pa_cons (pv 1) pa_nil)))
      (pss_cons (ps_while PassesOwn.never (pt_cmpR op_gt (pe_callB call_len_seq (by rfl) T.n_len bt_len (pa_cons (pv 4) pa_nil)) (pv 3) (nomark _)) (pss_cons (ps_set (i := 5) sc_integer_remainder.nd rfl (Or.inl rfl) (pe_ix ix_list (pv 4) (pe_un un_neg pe_int) (fun _ _ => rfl)))
      (pss_cons (ps_set (i := 6) sc_integer_remainder.nd rfl (Or.inl rfl) (pe_op op_sub (pe_op op_sub (pe_callB call_len_seq (by rfl) T.n_len bt_len (pa_cons (pv 4) pa_nil)) pe_int) (pv 3)))
      (pss_cons (ps_for PassesOwn.never rfl (pi_range1 (by rfl) T.n_range (pa_cons (pe_op op_add (pv 3) pe_int) pa_nil)) (pg_name (i := 7) sc_integer_remainder.nd rfl (Or.inl rfl)) (pss_one (ps_asg (pe_op op_mod (pe_op op_sub (pe_ix ix_list (pv 4) (pe_op op_add (pv 6) (pv 7)) (fun _ _ => rfl)) (pe_op op_mul (pv 5) (pe_ix ix_seq (pv 2) (pv 7) (fun _ _ => rfl)))) (pv 0)) (pg_sub (pv 4) (pe_op op_add (pv 6) (pv 7)) set_list))))
      (pss_one (ps_expr (pe_bm0 PySem.F.plainAttrs_list PySem.F.slot_list_pop PySem.F.type_list_pop mt_pop (pv 4))))))))
      (pss_one (ps_ret (pv 4)))))), ?_⟩
    -- size = len(divisor) - 1; rest = list(items)
    refine ⟨_, rfl, b, _, rfl, hb, _, _, rfl, rfl, _, rfl, a, _, rfl, ha, fun l hl => ?_⟩
    have hbl : Sq K (upd H l (.lst (vi xs))) b (vi dv) := sqS (newS hl) hb
    refine while_by (fun σ H' => ∃ (r : List Int) (v1 v2 v3 : Option V), σ = [some (.int p), some (.ref a), some (.ref b), some (.int ((dv.length : Int) - 1)), some (.ref l), v1, v2, v3] ∧ H' = upd H l (.lst (vi r)) ∧ r.length ≤ xs.length ∧ irem p dv r = irem p dv xs)
      (fun σ H' => match H' l with | some (.lst r) => r.length | _ => 0) ⟨xs, none, none, none, ?_, rfl, Nat.le_refl _, rfl⟩ ?_ ?_
    · simp only [vi_len]; rfl
    · rintro σ H' ⟨r, v1, v2, v3, rfl, rfl, hle, hr'⟩
      refine ⟨_, rfl, l, _, rfl, .inl (SqL.of upd_same), _, rfl, _, _, rfl, rfl, _, rfl, ite2 (fun c => ?_) fun c => ?_⟩
      · -- a turn
        have c := of_decide_eq_true c
        rw [vi_len] at c
        have hlen : dv.length ≤ r.length := by omega
        refine ⟨_, rfl, _, rfl, l, _, _, _, rfl, rfl, SqL.of upd_same, at_neg1 (by rw [vi_len]; exact vi_at (by omega)), ?_⟩
        refine ⟨_, rfl, l, _, rfl, .inl (SqL.of upd_same), _, _, rfl, rfl, _, rfl, _, _, rfl, rfl, ?_⟩
        -- the inner loop
        generalize hf : r.getD (r.length - 1) 0 = fac
        refine ⟨_, rfl, _, _, rfl, rfl, _, rfl, by omega, by omega, ?_⟩
        have en : ((dv.length : Int) - 1 + 1).toNat = dv.length := by omega
        rw [en]
        have es : ((vi r).length : Int) - 1 - ((dv.length : Int) - 1) = ((r.length - dv.length : Nat) : Int) := by rw [vi_len]; omega
        refine for_range (fun i σ H' => ∃ v, σ = [some (.int p), some (.ref a), some (.ref b), some (.int ((dv.length : Int) - 1)), some (.ref l), some (.int fac), some (.int ((r.length - dv.length : Nat) : Int)), v] ∧
            H' = upd H l (.lst (vi (irIn p dv fac (r.length - dv.length) i r)))) ⟨v3, by rw [← es]; rfl, rfl⟩ ?_ ?_
        · rintro i σ H' hi ⟨v, rfl, rfl⟩
          have hil : r.length - dv.length + i < (irIn p dv fac (r.length - dv.length) i r).length := by rw [irIn_length]; omega
          have hdi : dv.getD i 0 ∈ dv := by rw [List.getD_eq_getElem?_getD, List.getElem?_eq_getElem hi]; exact List.getElem_mem hi
          have ei : ((r.length - dv.length : Nat) : Int) + (0 + (i : Nat)) = ((r.length - dv.length + i : Nat) : Int) := by omega
          refine ⟨_, rfl, _, rfl, _, rfl, _, _, rfl, rfl, l, _, _, _, rfl, rfl, SqL.of upd_same, at_of ei (vi_at hil), _, rfl, _, rfl, _, rfl,
            ix_sq ((sqS (newS hl) hb)) (at_of (by simp) (vi_at hi)) ⟨_, _, rfl, rfl, .inr ⟨by have := hdv _ hdi; omega, by have := hdv _ hdi; omega⟩, _, _, rfl, rfl, _, rfl, _, _, rfl, rfl, hp, _, rfl, _, rfl, _, rfl, _, _, rfl, rfl,
              l, _, _, _, rfl, rfl, upd_same, ixN_of ei (by rw [vi_len]; exact hil), _, rfl, ?_⟩⟩
          rw [upd_upd, vi_set]
          rfl
        · rintro σ H' ⟨v, rfl, rfl⟩
          -- rest.pop()
          have hil : (irIn p dv fac (r.length - dv.length) dv.length r).length = r.length := irIn_length ..
          refine ⟨_, rfl, .inl ⟨rfl, _, SqL.of upd_same⟩, l, _, _, rfl, rfl, upd_same, (by rw [vi_len]; exact vi_at (by omega)), ⟨irTurn p dv r, _, _, _, rfl, ?_, by rw [irTurn_length]; omega, ?_⟩, ?_⟩
          · rw [upd_upd]
            show upd H l (.lst (vi _).dropLast) = _
            rw [← List.map_dropLast, ← hf]; rfl
          · rw [← hr']
            unfold irem
            rw [irTurn_length]
            obtain ⟨m, hm⟩ : ∃ m, r.length + 1 - dv.length = m + 1 := ⟨r.length - dv.length, by omega⟩
            rw [hm, show r.length - 1 + 1 - dv.length = m by omega]
            rfl
          · rw [upd_same, upd_same]
            simp only [List.length_dropLast, vi_len, irIn_length]
            omega
      · have c : ¬ _ := fun z => c (decide_eq_true z)
        rw [vi_len] at c
        refine ⟨_, rfl, k _ _ (newS hl) hl ?_⟩
        rw [← hr']
        have e0 : r.length + 1 - dv.length = 0 := by omega
        unfold irem
        rw [e0]
        exact upd_same
    · intro σ H Q Q' hq h
      obtain ⟨v, e, l, ys, e2, h2, v2, e3, i, j, e4, e5, x, e6, h3⟩ := h
      exact ⟨v, e, l, ys, e2, h2, v2, e3, i, j, e4, e5, x, e6, hq _ _ h3⟩
end
end NW

set_option Elab.async false
set_option linter.all false
set_option maxRecDepth 100000
set_option maxHeartbeats 4000000
namespace NW
open PySem L2 GP
/-! ### a field's attributes -/
theorem s_pm : ¬ (("prime" : Str) = "modulus") := by decide +kernel
theorem s_pd : ¬ (("prime" : Str) = "degree") := by decide +kernel
theorem s_po : ¬ (("prime" : Str) = "order") := by decide +kernel
theorem s_md : ¬ (("modulus" : Str) = "degree") := by decide +kernel
theorem s_mo : ¬ (("modulus" : Str) = "order") := by decide +kernel
theorem s_do : ¬ (("degree" : Str) = "order") := by decide +kernel
def fF (i : Fin 8) (m : Addr) : List (Str × V) := putF "order" (.int (fq i)) (putF "degree" (.int (fd i)) (putF "modulus" (.ref m) (putF "prime" (.int (fp i)) [])))
theorem fF_prime (i : Fin 8) (m : Addr) : (fF i m).lookup ("prime" : Str) = some (.int (fp i)) := by
  unfold fF
  rw [lookup_putF, if_neg s_po, lookup_putF, if_neg s_pd, lookup_putF, if_neg s_pm, lookup_putF, if_pos rfl]
theorem fF_modulus (i : Fin 8) (m : Addr) : (fF i m).lookup ("modulus" : Str) = some (.ref m) := by
  unfold fF
  rw [lookup_putF, if_neg s_mo, lookup_putF, if_neg s_md, lookup_putF, if_pos rfl]
theorem fF_degree (i : Fin 8) (m : Addr) : (fF i m).lookup ("degree" : Str) = some (.int (fd i)) := by
  unfold fF
  rw [lookup_putF, if_neg s_do, lookup_putF, if_pos rfl]
theorem fF_order (i : Fin 8) (m : Addr) : (fF i m).lookup ("order" : Str) = some (.int (fq i)) := by
  unfold fF
  rw [lookup_putF, if_pos rfl]
theorem fF_no (i : Fin 8) (m : Addr) {x : Str} (h1 : ¬ x = "prime") (h2 : ¬ x = "modulus") (h3 : ¬ x = "degree") (h4 : ¬ x = "order") : (fF i m).lookup x = none := by
  unfold fF
  rw [lookup_putF, if_neg h4, lookup_putF, if_neg h3, lookup_putF, if_neg h2, lookup_putF, if_neg h1]
  rfl
/-- the field i stands at a -/
def FieldAt (K : PySem.W.Frag) (CF : Addr) (H : Hp) (a : Addr) (i : Fin 8) : Prop := ∃ dx m, H a = some (.ins CF dx (fF i m)) ∧ SqT K H m (vi (fm i))
theorem fieldS {K : PySem.W.Frag} {CF : Addr} {H H' : Hp} {a : Addr} {i : Fin 8} (s : Same H H') (h : FieldAt K CF H a i) : FieldAt K CF H' a i := by
  obtain ⟨dx, m, h1, h2⟩ := h
  exact ⟨dx, m, s _ _ h1, sqTS s h2⟩
section
variable {P : Program} {w : World} {K : PySem.W.Frag} {mg : Str → Option Value} {base : Heap} {CF CE CI : Addr}

/-! ### is_irreducible -/
abbrev s_is_irreducible : Stmt := top 17
abbrev N_is_irreducible : List Str := ["prime", "modulus", "size", "n", "divisor", "rest"]
theorem sc_is_irreducible : FnScope N_is_irreducible ["prime", "modulus"] (defScope s_is_irreducible) := ⟨rfl, rfl, rfl, by decide +kernel, rfl, by decide +kernel, by decide +kernel⟩
def sp_is_irreducible (K : PySem.W.Frag) : Sp := fun vs H Q _ => ∃ (i : Fin 8) (m : Addr), vs = [.int (fp i), .ref m] ∧ SqT K H m (vi (fm i)) ∧ GV H Q (.bl true)
theorem ok_is_irreducible {f : Addr} {fd' : FuncData} (F : Fun K "is_irreducible" "is_irreducible" s_is_irreducible f fd') (T : Txt K mg CF CE CI)
    (c1 : Cal P w K mg base CX0 "int_power" ["base", "exponent"] 1 sp_int_power) (c2 : Cal P w K mg base CX0 "base_digits" ["n", "base", "size"] 1 sp_base_digits)
    (c3 : Cal P w K mg base CX0 "integer_remainder" ["prime", "items", "divisor"] 1 (sp_integer_remainder K)) : FnOk P w K mg base CX0 2 f fd' ["prime", "modulus"] (sp_is_irreducible K) := by
  obtain ⟨f_int_power, _, ok_int_power, mg_int_power, kp_int_power, b_int_power⟩ := c1
  obtain ⟨f_base_digits, _, ok_base_digits, mg_base_digits, kp_base_digits, b_base_digits⟩ := c2
  obtain ⟨f_integer_remainder, _, ok_integer_remainder, mg_integer_remainder, kp_integer_remainder, b_integer_remainder⟩ := c3
  refine F.ok sc_is_irreducible (fun vs H Q E h => ?_) (fun cdv A outer s H vs Q E hr h => ?_)
  · obtain ⟨i, m, rfl, _⟩ := h; rfl
  · obtain ⟨i, m, rfl, hm, k⟩ := h
    have p2 := fp_pos i
    have p7 := fp_le i
    have d3 := fd_le i
    have d1 := fd_pos i
    have ml := fm_length i
    refine ⟨_, (pss_cons (ps_for PassesOwn.never rfl (pi_range2 (by rfl) T.n_range (pa_cons pe_int (pa_cons (pe_op op_sub (pe_callB call_len_seq (by rfl) T.n_len bt_len (pa_cons (pv 1) pa_nil)) pe_int) pa_nil))) (pg_name (i := 2) sc_is_irreducible.nd rfl (Or.inl rfl)) (pss_one (ps_for PassesOwn.never rfl (pi_range1 (by rfl) T.n_range (pa_cons (pe_call ok_int_power (hr.mono (by decide)) (by rfl) mg_int_power kp_int_power b_int_power .nil pass0 (pa_cons (pv 0) (pa_cons (pv 2) pa_nil))) pa_nil)) (pg_name (i := 3) sc_is_irreducible.nd rfl (Or.inl rfl)) (pss_cons (ps_set (i := 4) sc_is_irreducible.nd rfl (Or.inl rfl) (pe_op op_cat (pe_call ok_base_digits (hr.mono (by decide)) (by rfl) mg_base_digits kp_base_digits b_base_digits .nil pass0 (pa_cons (pv 3) (pa_cons (pv 0) (pa_cons (pv 2) pa_nil)))) (pe_lst (pa_cons pe_int pa_nil))))
      (pss_cons (ps_set (i := 5) sc_is_irreducible.nd rfl (Or.inl rfl) (pe_call ok_integer_remainder (hr.mono (by decide)) (by rfl) mg_integer_remainder kp_integer_remainder b_integer_remainder .nil pass0 (pa_cons (pv 0) (pa_cons (pv 1) (pa_cons (pv 4) pa_nil)))))
      (pss_one (ps_if (pt_cmpR (op_eqD hr.units) (pv 5) (pe_op op_rep (pe_lst (pa_cons pe_int pa_nil)) (pv 2)) (nomark _)) (pss_one (ps_ret pe_bl)) pss_nil)))))))
      (pss_one (ps_ret pe_bl))), ?_⟩
    refine ⟨_, rfl, m, _, rfl, .inr hm, _, _, rfl, rfl, _, _, rfl, ⟨by omega, by omega, by rw [vi_len]; omega, by rw [vi_len]; omega⟩, ?_⟩
    refine for_range (fun j σ H' => ∃ v1 v2 v3 v4, σ = [some (.int (fp i)), some (.ref m), v1, v2, v3, v4] ∧ Same H H') ⟨none, none, none, none, rfl, Same.refl _⟩ ?_ ?_
    · rintro j σ H1 hj ⟨v1, v2, v3, v4, rfl, s1⟩
      rw [vi_len, ml] at hj
      have ej : (1 : Int) + (j : Nat) = ((j + 1 : Nat) : Int) := by omega
      rw [ej]
      refine ⟨_, rfl, _, rfl, (fp i : Int), j + 1, rfl, by omega, by omega, by omega, ?_⟩
      have hpow : (0 : Int) < (fp i : Int) ^ (j + 1) := Int.pow_pos (by omega)
      have hpow2 : (fp i : Int) ^ (j + 1) < 1000 := by
        have := (by decide +kernel : ∀ (i : Fin 8) (s : Fin 4), ((fp i : Int)) ^ s.val < 1000) i ⟨j + 1, by omega⟩
        exact this
      refine ⟨_, rfl, by omega, by omega, ?_⟩
      refine for_range (fun n σ H' => ∃ v2 v3 v4, σ = [some (.int (fp i)), some (.ref m), some (.int ((j + 1 : Nat) : Int)), v2, v3, v4] ∧ Same H H') ⟨v2, v3, v4, rfl, s1⟩ ?_ ?_
      · rintro n σ H2 hn ⟨v2, v3, v4, rfl, s2⟩
        have en : (0 : Int) + (n : Nat) = ((n : Nat) : Int) := by omega
        rw [en]
        -- divisor = base_digits(n, prime, size) + [1]
        refine ⟨_, rfl, _, rfl, _, rfl, (n : Int), (fp i : Int), j + 1, rfl, by omega, by omega, by omega, fun H3 q s3 hq h3 => ?_⟩
        refine ⟨by show 1 ≤ sizeLine; decide, fun o ho => ?_⟩
        have h3' : upd H3 o (.lst [.int 1]) q = some (.lst (vi (bd n (fp i) (j + 1)))) := newS ho _ _ h3
        refine ⟨q, o, _, _, rfl, rfl, h3', upd_same, small (by rw [vi_len, bd_length]; show j + 1 + 1 ≤ _; omega), fun dv hdv => ?_⟩
        -- rest = integer_remainder(prime, modulus, divisor)
        have s4 : Same H (upd (upd H3 o (.lst [.int 1])) dv (.lst (vi (bd n (fp i) (j + 1)) ++ [.int 1]))) := ((s2.trans s3).trans (newS ho)).trans (newS hdv)
        rw [vi_snoc] at s4 ⊢
        refine ⟨_, rfl, _, rfl, _, rfl, (fp i : Int), m, dv, fm i, bd n (fp i) (j + 1) ++ [1], rfl, by omega, .inr (sqTS s4 hm), .inl (SqL.of upd_same), by omega, by simp, by simp [bd_length]; omega, ?_, fun H5 r s5 hr5 h5 => ?_⟩
        · intro z hz
          rcases List.mem_append.mp hz with hz | hz
          · obtain ⟨t, _, rfl⟩ := List.mem_map.mp (show z ∈ (List.range (j + 1)).map _ from hz)
            have h1 := Int.emod_nonneg (shr (fp i) t n) (show (fp i : Int) ≠ 0 by omega)
            have h2 := Int.emod_lt_of_pos (shr (fp i) t n) (show 0 < (fp i : Int) by omega)
            omega
          · have : z = 1 := by simpa using hz
            omega
        -- if rest == [0] * size
        refine ⟨_, rfl, by show 1 ≤ sizeLine; decide, fun z hz => ?_⟩
        refine ⟨_, rfl, z, _, _, rfl, rfl, upd_same, by omega, by omega, small (by show 1 * _ ≤ _; omega), fun y hy => ?_⟩
        have e0 : (List.replicate (((j + 1 : Nat) : Int)).toNat [V.int 0]).flatten = vi (List.replicate (j + 1) 0) := by
          rw [Int.toNat_natCast]
          generalize j + 1 = n
          induction n with
          | zero => rfl
          | succ n ih => rw [List.replicate_succ, List.flatten_cons, ih]; rfl
        rw [e0]
        refine eq_lists (ns := irem (fp i) (bd n (fp i) (j + 1) ++ [1]) (fm i)) (SqL.of (newS hy _ _ (newS hz _ _ h5))) (SqL.of upd_same) ⟨_, rfl, ite2 (fun c => ?_) fun _ => ?_⟩
        · exact absurd (of_decide_eq_true c) (fm_irr i (j + 1) n (by omega) (by omega) (by omega))
        · exact ⟨_, _, _, rfl, ((s4.trans s5).trans (newS hz)).trans (newS hy)⟩
      · rintro σ H2 ⟨v2, v3, v4, rfl, s2⟩
        exact ⟨_, _, _, _, rfl, s2⟩
    · rintro σ H1 ⟨v1, v2, v3, v4, rfl, s1⟩
      exact k _ s1

/-! ### is_modulus -/
abbrev s_is_modulus : Stmt := top 18
abbrev N_is_modulus : List Str := ["prime", "modulus", "item"]
theorem sc_is_modulus : FnScope N_is_modulus ["prime", "modulus"] (defScope s_is_modulus) := ⟨rfl, rfl, rfl, by decide +kernel, rfl, by decide +kernel, by decide +kernel⟩
def sp_is_modulus (K : PySem.W.Frag) : Sp := fun vs H Q _ => ∃ (i : Fin 8) (m : Addr), vs = [.int (fp i), .ref m] ∧ SqT K H m (vi (fm i)) ∧ GV H Q (.bl true)
theorem ok_is_modulus {f : Addr} {fd' : FuncData} (F : Fun K "is_modulus" "is_modulus" s_is_modulus f fd') (T : Txt K mg CF CE CI)
    (c1 : Cal P w K mg base CX0 "int_power" ["base", "exponent"] 1 sp_int_power) (c2 : Cal P w K mg base CX0 "is_irreducible" ["prime", "modulus"] 2 (sp_is_irreducible K)) : FnOk P w K mg base CX0 3 f fd' ["prime", "modulus"] (sp_is_modulus K) := by
  obtain ⟨f_int_power, _, ok_int_power, mg_int_power, kp_int_power, b_int_power⟩ := c1
  obtain ⟨f_is_irreducible, _, ok_is_irreducible, mg_is_irreducible, kp_is_irreducible, b_is_irreducible⟩ := c2
  refine F.ok sc_is_modulus (fun vs H Q E h => ?_) (fun cdv A outer s H vs Q E hr h => ?_)
  · obtain ⟨i, m, rfl, _⟩ := h; rfl
  · obtain ⟨i, m, rfl, hm, k⟩ := h
    have p2 := fp_pos i
    have p7 := fp_le i
    have d3 := fd_le i
    have d1 := fd_pos i
    have ml := fm_length i
    refine ⟨_, (pss_cons (ps_if (PW.pt (pw_or (pt_cmpR op_lt (pe_callB call_len_seq (by rfl) T.n_len bt_len (pa_cons (pv 1) pa_nil)) pe_int (nomark _)) (pw_or (pt_cmpR op_gt (pe_callB call_len_seq (by rfl) T.n_len bt_len (pa_cons (pv 1) pa_nil)) pe_int (nomark _)) (pw_or1 (pt_cmpR op_ne (pe_ix ix_tup (pv 1) (pe_un un_neg pe_int) (fun _ _ => rfl)) pe_int (nomark _)))))) (pss_one (ps_ret pe_bl)) pss_nil)
      (pss_cons (ps_if (pt_cmpR op_gt (pe_call ok_int_power (hr.mono (by decide)) (by rfl) mg_int_power kp_int_power b_int_power .nil pass0 (pa_cons (pv 0) (pa_cons (pe_op op_sub (pe_callB call_len_seq (by rfl) T.n_len bt_len (pa_cons (pv 1) pa_nil)) pe_int) pa_nil))) (pe_globI (by rfl) T.g_LARGEST_ORDER) (nomark _)) (pss_one (ps_ret pe_bl)) pss_nil)
      (pss_cons (ps_for PassesOwn.never rfl (pi_tup (pv 1)) (pg_name (i := 2) sc_is_modulus.nd rfl (Or.inl rfl)) (pss_one (ps_if (PW.pt (pw_or (pt_cmpR op_lt (pv 2) pe_int (nomark _)) (pw_or1 (pt_cmpR op_ge (pv 2) (pv 0) (nomark _))))) (pss_one (ps_ret pe_bl)) pss_nil)))
      (pss_one (ps_ret (pe_call ok_is_irreducible (hr.mono (by decide)) (by rfl) mg_is_irreducible kp_is_irreducible b_is_irreducible .nil pass0 (pa_cons (pv 0) (pa_cons (pv 1) pa_nil)))))))), ?_⟩
    -- the three tests
    refine ⟨_, rfl, m, _, rfl, .inr hm, _, _, rfl, rfl, _, rfl, ite2 (fun c => absurd (of_decide_eq_true c) (by rw [vi_len, ml]; omega)) fun _ => ?_⟩
    refine ⟨_, rfl, m, _, rfl, .inr hm, _, _, rfl, rfl, _, rfl, ite2 (fun c => absurd (of_decide_eq_true c) (by rw [vi_len, ml]; omega)) fun _ => ?_⟩
    have hlast : (vi (fm i))[(vi (fm i)).length - 1]? = some (.int 1) := by
      rw [vi_len, ml]
      show (vi (fm i))[fd i]? = _
      rw [vi_at (by omega), fm_last]
    refine ⟨_, rfl, _, rfl, m, _, _, _, rfl, rfl, hm, at_neg1 hlast, rfl, _, rfl, ?_⟩
    refine iteF ?_
    -- the order
    refine ⟨_, rfl, _, rfl, m, _, rfl, .inr hm, _, _, rfl, rfl, (fp i : Int), fd i, ?_, by omega, by omega, by omega, ?_⟩
    · show [V.int (fp i), V.int (((vi (fm i)).length : Int) - 1)] = _
      rw [vi_len, ml]
      have e : ((fd i + 1 : Nat) : Int) - 1 = ((fd i : Nat) : Int) := by omega
      rw [e]
    refine ⟨_, _, rfl, rfl, _, rfl, ite2 (fun c => absurd (of_decide_eq_true c) (by rw [fq_pow]; have := fq_le i; omega)) fun _ => ?_⟩
    -- the items
    refine ⟨_, rfl, m, rfl, ⟨_, hm⟩, for_tup (xs := vi (fm i)) (fun j σ H' => ∃ v, σ = [some (.int (fp i)), some (.ref m), v] ∧ H' = H) ⟨none, rfl, rfl⟩ (fun j σ H' _ ⟨_, _, e⟩ => by rw [e]; exact hm) ?_ ?_⟩
    · rintro j x σ H' hx ⟨v, rfl, rfl⟩
      obtain ⟨z, hz, rfl⟩ := vi_get hx
      have hzr := fm_range i z (List.mem_of_getElem? hz)
      refine ⟨_, rfl, _, _, rfl, rfl, _, rfl, ite2 (fun c => absurd (of_decide_eq_true c) (by omega)) fun _ => ?_⟩
      refine ⟨_, rfl, _, rfl, _, _, rfl, rfl, _, rfl, ite2 (fun c => absurd (of_decide_eq_true c) (by omega)) fun _ => ?_⟩
      exact ⟨_, rfl, rfl⟩
    · rintro σ H' ⟨v, rfl, rfl⟩
      exact ⟨_, rfl, _, rfl, i, m, rfl, hm, k⟩

/-! ### Field.__init__ -/
abbrev s_Field___init__ : Stmt := inClass (top 19) 0
abbrev N_Field___init__ : List Str := ["self", "prime", "modulus"]
theorem sc_Field___init__ : FnScope N_Field___init__ ["self", "prime", "modulus"] (defScope s_Field___init__) := ⟨rfl, rfl, rfl, by decide +kernel, rfl, by decide +kernel, by decide +kernel⟩
def sp_Field___init__ (K : PySem.W.Frag) (CF : Addr) : Sp := fun vs H Q _ => ∃ (x dx : Addr) (i : Fin 8) (m : Addr), vs = [.ref x, .int (fp i), .ref m] ∧ H x = some (.ins CF dx []) ∧ SqT K H m (vi (fm i)) ∧
  ∀ H', H' x = some (.ins CF dx (fF i m)) → (∀ b o, H b = some o → b ≠ x → H' b = some o) → Q .non H'
theorem funD_ok {x qual : Str} {st : Stmt} {dvs : List V} {kws : List (Str × V)} {f : Addr} {fd : FuncData} {N ps : List Str} {k : Nat} {sp : Sp} (F : FunD K x qual (defArgs st) (defBody st) (defScope st) dvs kws f fd) (S : FnScope N ps (defScope st)) (len : ∀ vs H Q E, sp vs H Q E → vs.length = ps.length)
    (hbody : ∀ (cdv : Value) (A : Around) (outer : List Env) (s : Shared) (H : Hp) (vs : List V) (Q : VK) (E : XK), Room k (A.deeper (PyProof.Rows.envOfC qual (defScope st) s.heap.objs.size f cdv)) → sp vs H Q E →
      ∃ t, PSs (cxOf CX0 P w K mg base N qual (defScope st) f cdv A outer s H E).nox (defBody st) t ∧ t { nx := fun _ H' => Q .non H', rt := Q } (start N vs) H) : FnOk P w K mg base CX0 (k + 1) f fd ps sp :=
  F.ok S len fun cdv A outer s H vs Q E hr hsp => by
    obtain ⟨t, h, q⟩ := hbody cdv A outer s H vs Q E hr hsp
    exact ⟨t, h.nox, q⟩
theorem ok_Field___init__ {f : Addr} {fd' : FuncData} {dvs : List V} (F : FunD K "__init__" "Field.__init__" (defArgs s_Field___init__) (defBody s_Field___init__) (defScope s_Field___init__) dvs [] f fd') (T : Txt K mg CF CE CI)
    (c1 : Cal P w K mg base CX0 "is_prime" ["n"] 1 sp_is_prime) (c2 : Cal P w K mg base CX0 "is_modulus" ["prime", "modulus"] 3 (sp_is_modulus K))
    (c3 : Cal P w K mg base CX0 "int_power" ["base", "exponent"] 1 sp_int_power) : FnOk P w K mg base CX0 4 f fd' ["self", "prime", "modulus"] (sp_Field___init__ K CF) := by
  obtain ⟨f_is_prime, _, ok_is_prime, mg_is_prime, kp_is_prime, b_is_prime⟩ := c1
  obtain ⟨f_is_modulus, _, ok_is_modulus, mg_is_modulus, kp_is_modulus, b_is_modulus⟩ := c2
  obtain ⟨f_int_power, _, ok_int_power, mg_int_power, kp_int_power, b_int_power⟩ := c3
  refine funD_ok F sc_Field___init__ (fun vs H Q E h => ?_) (fun cdv A outer s H vs Q E hr h => ?_)
  · obtain ⟨x, dx, i, m, rfl, _⟩ := h; rfl
  · obtain ⟨x, dx, i, m, rfl, hx, hm, k⟩ := h
    have p2 := fp_pos i
    have p7 := fp_le i
    have d3 := fd_le i
    have d1 := fd_pos i
    have ml := fm_length i
    refine ⟨_, (pss_cons (ps_if (PW.pt (pw_or (pt_cmpR op_gt (pv 1) (pe_globI (by rfl) T.g_LARGEST_PRIME) (nomark _)) (pw_or1 (pt_not (pt_val (pe_call ok_is_prime (hr.mono (by decide)) (by rfl) mg_is_prime kp_is_prime b_is_prime .nil pass0 (pa_cons (pv 1) pa_nil))))))) (pss_one ps_never) pss_nil)
      (pss_cons (ps_if (pt_not (pt_val (pe_call ok_is_modulus (hr.mono (by decide)) (by rfl) mg_is_modulus kp_is_modulus b_is_modulus .nil pass0 (pa_cons (pv 1) (pa_cons (pv 2) pa_nil))))) (pss_one ps_never) pss_nil)
      (pss_cons (ps_fld (pv 0) (pv 1) rfl)
      (pss_cons (ps_fld (pv 0) (pv 2) rfl)
      (pss_cons (ps_fld (pv 0) (pe_op op_sub (pe_callB call_len_seq (by rfl) T.n_len bt_len (pa_cons (pv 2) pa_nil)) pe_int) rfl)
      (pss_one (ps_fld (pv 0) (pe_call ok_int_power (hr.mono (by decide)) (by rfl) mg_int_power kp_int_power b_int_power .nil pass0 (pa_cons (pv 1) (pa_cons (pe_fld (pv 0) rfl) pa_nil))) rfl))))))), ?_⟩
    refine ⟨_, rfl, _, _, rfl, rfl, _, rfl, ite2 (fun c => absurd (of_decide_eq_true c) (by omega)) fun _ => ?_⟩
    refine ⟨_, rfl, fp i, rfl, by omega, by omega, fp_prime i, _, rfl, ?_⟩
    refine iteF ?_
    refine ⟨_, rfl, _, rfl, i, m, rfl, hm, fun H1 s1 => ⟨_, rfl, ?_⟩⟩
    refine iteF ?_
    have hx1 := s1 _ _ hx
    have hm1 := sqTS s1 hm
    -- self.prime = prime; self.modulus = modulus; self.degree = len(modulus) - 1; self.order = int_power(prime, self.degree)
    have keepT : ∀ fs, SqT K (upd H1 x (.ins CF dx fs)) m (vi (fm i)) := fun fs => by
      rcases hm1 with (h | ⟨o, h⟩) | h
      · exact .inl (.inl (by rw [upd_ne (ne_of h hx1 (by intro z; cases z))]; exact h))
      · exact .inl (.inr ⟨o, by rw [upd_ne (ne_of h hx1 (by intro z; cases z))]; exact h⟩)
      · exact .inr h
    refine ⟨_, rfl, _, rfl, x, CF, dx, [], rfl, hx1, T.clF, T.fF_prime, (by show 0 < 1000; decide), ?_⟩
    refine ⟨_, rfl, _, rfl, x, CF, dx, _, rfl, upd_same, T.clF, T.fF_modulus, (by show 1 < 1000; decide), ?_⟩
    rw [upd_upd]
    refine ⟨_, rfl, m, _, rfl, .inr (keepT _), _, _, rfl, rfl, _, rfl, x, CF, dx, _, rfl, upd_same, T.clF, T.fF_degree, ?_, ?_⟩
    · exact Nat.lt_of_le_of_lt (length_putF _ _ _) (by show 1 + 1 < 1000; decide)
    rw [upd_upd]
    have ed : ((vi (fm i)).length : Int) - 1 = (fd i : Int) := by rw [vi_len, ml]; omega
    simp only [ed]
    refine ⟨_, rfl, _, rfl, x, CF, dx, _, _, rfl, upd_same, T.clF, T.fF_degree, (by rw [lookup_putF, if_pos rfl]), (fp i : Int), fd i, rfl, by omega, by omega, by omega, ?_⟩
    rw [fq_pow]
    refine ⟨_, rfl, x, CF, dx, _, rfl, upd_same, T.clF, T.fF_order, ?_, ?_⟩
    · exact Nat.lt_of_le_of_lt (length_putF _ _ _) (Nat.succ_lt_succ (Nat.lt_of_le_of_lt (length_putF _ _ _) (by show 1 + 1 < 999; decide)))
    rw [upd_upd]
    refine k _ upd_same fun b o e hb => by rw [upd_ne hb]; exact s1 _ _ e
end
end NW

set_option Elab.async false
set_option linter.all false
set_option maxRecDepth 100000
set_option maxHeartbeats 4000000
namespace NW
open PySem L2 GP
section
variable {P : Program} {w : World} {K : PySem.W.Frag} {mg : Str → Option Value} {base : Heap} {CF CE CI : Addr}
theorem fF_digits (i : Fin 8) (m : Addr) : (fF i m).lookup ("digits" : Str) = none := fF_no i m (by decide +kernel) (by decide +kernel) (by decide +kernel) (by decide +kernel)
theorem fF_element (i : Fin 8) (m : Addr) : (fF i m).lookup ("element" : Str) = none := fF_no i m (by decide +kernel) (by decide +kernel) (by decide +kernel) (by decide +kernel)
theorem fF_plus (i : Fin 8) (m : Addr) : (fF i m).lookup ("plus" : Str) = none := fF_no i m (by decide +kernel) (by decide +kernel) (by decide +kernel) (by decide +kernel)
theorem fF_negative (i : Fin 8) (m : Addr) : (fF i m).lookup ("negative" : Str) = none := fF_no i m (by decide +kernel) (by decide +kernel) (by decide +kernel) (by decide +kernel)
theorem fF_minus (i : Fin 8) (m : Addr) : (fF i m).lookup ("minus" : Str) = none := fF_no i m (by decide +kernel) (by decide +kernel) (by decide +kernel) (by decide +kernel)
theorem fF_times (i : Fin 8) (m : Addr) : (fF i m).lookup ("times" : Str) = none := fF_no i m (by decide +kernel) (by decide +kernel) (by decide +kernel) (by decide +kernel)
theorem fF_inverse (i : Fin 8) (m : Addr) : (fF i m).lookup ("inverse" : Str) = none := fF_no i m (by decide +kernel) (by decide +kernel) (by decide +kernel) (by decide +kernel)
theorem fF_over (i : Fin 8) (m : Addr) : (fF i m).lookup ("over" : Str) = none := fF_no i m (by decide +kernel) (by decide +kernel) (by decide +kernel) (by decide +kernel)

/-! ### digits -/
abbrev s_Field_digits : Stmt := inClass (top 19) 1
abbrev N_Field_digits : List Str := ["self", "a"]
theorem sc_Field_digits : FnScope N_Field_digits ["self", "a"] (defScope s_Field_digits) := ⟨rfl, rfl, rfl, by decide +kernel, rfl, by decide +kernel, by decide +kernel⟩
def sp_digits (K : PySem.W.Frag) (CF : Addr) : Sp := fun vs H Q _ => ∃ (fa : Addr) (i : Fin 8) (a : Int), vs = [.ref fa, .int a] ∧ FieldAt K CF H fa i ∧ GL H Q (vi (bd a (fp i) (fd i)))
theorem ok_digits {f : Addr} {fd' : FuncData} (F : Fun K "digits" "Field.digits" s_Field_digits f fd') (T : Txt K mg CF CE CI)
    (c1 : Cal P w K mg base CX0 "base_digits" ["n", "base", "size"] 1 sp_base_digits) : FnOk P w K mg base CX0 2 f fd' ["self", "a"] (sp_digits K CF) := by
  obtain ⟨f_base_digits, _, ok_base_digits, mg_base_digits, kp_base_digits, b_base_digits⟩ := c1
  refine F.ok sc_Field_digits (fun vs H Q E h => ?_) (fun cdv A outer s H vs Q E hr h => ?_)
  · obtain ⟨fa, i, a, rfl, _⟩ := h; rfl
  · obtain ⟨fa, i, a, rfl, ⟨dx, m, hf, hm⟩, k⟩ := h
    have p2 := fp_pos i
    have p7 := fp_le i
    have d3 := fd_le i
    refine ⟨_, (pss_one (ps_ret (pe_call ok_base_digits (hr.mono (by decide)) (by rfl) mg_base_digits kp_base_digits b_base_digits .nil pass0 (pa_cons (pv 1) (pa_cons (pe_fld (pv 0) rfl) (pa_cons (pe_fld (pv 0) rfl) pa_nil)))))), ?_⟩
    exact ⟨_, rfl, _, rfl, fa, CF, dx, _, _, rfl, hf, T.clF, T.fF_prime, fF_prime i m, _, rfl, fa, CF, dx, _, _, rfl, hf, T.clF, T.fF_degree, fF_degree i m, a, (fp i : Int), fd i, rfl, by omega, by omega, by omega, k⟩

/-! ### element -/
abbrev s_Field_element : Stmt := inClass (top 19) 2
abbrev N_Field_element : List Str := ["self", "digits", "result", "digit"]
theorem sc_Field_element : FnScope N_Field_element ["self", "digits"] (defScope s_Field_element) := ⟨rfl, rfl, rfl, by decide +kernel, rfl, by decide +kernel, by decide +kernel⟩
def sp_element (K : PySem.W.Frag) (CF : Addr) : Sp := fun vs H Q _ => ∃ (fa l : Addr) (i : Fin 8) (ds : List Int), vs = [.ref fa, .ref l] ∧ FieldAt K CF H fa i ∧ SqL K H l (vi ds) ∧ Q (.int (elem (fp i) ds)) H
theorem ok_element {f : Addr} {fd' : FuncData} (F : Fun K "element" "Field.element" s_Field_element f fd') (T : Txt K mg CF CE CI) : FnOk P w K mg base CX0 1 f fd' ["self", "digits"] (sp_element K CF) := by
  refine F.ok sc_Field_element (fun vs H Q E h => ?_) (fun cdv A outer s H vs Q E hr h => ?_)
  · obtain ⟨fa, l, i, ds, rfl, _⟩ := h; rfl
  · obtain ⟨fa, l, i, ds, rfl, ⟨dx, m, hf, hm⟩, hl, k⟩ := h
    have p2 := fp_pos i
    have p7 := fp_le i
    refine ⟨_, (pss_cons (ps_set (i := 2) sc_Field_element.nd rfl (Or.inl rfl) pe_int)
      (pss_cons (ps_for PassesOwn.never rfl (pi_reversed (by rfl) T.n_reversed (pa_cons (pv 1) pa_nil)) (pg_name (i := 3) sc_Field_element.nd rfl (Or.inl rfl)) (pss_one (ps_set (i := 2) sc_Field_element.nd rfl (Or.inl rfl) (pe_op op_add (pe_op op_mul (pv 2) (pe_fld (pv 0) rfl)) (pv 3)))))
      (pss_one (ps_ret (pv 2))))), ?_⟩
    refine ⟨_, rfl, l, _, rfl, hl, RT.for_Itv (xs := vi ds) (fun j σ H' => ∃ v, σ = [some (.ref fa), some (.ref l), some (.int (elem (fp i) (ds.drop (ds.length - j)))), v] ∧ H' = H) ⟨none, ?_, rfl⟩ (fun j σ H' ⟨_, _, e⟩ => by rw [e]; exact hl) ?_ ?_⟩
    · rw [Nat.sub_zero, List.drop_length]; rfl
    · rintro j x σ H' hj hx ⟨v, rfl, rfl⟩
      obtain ⟨z, hz, rfl⟩ := vi_get hx
      rw [vi_len] at hz hj
      have hlt : ds.length - (j + 1) < ds.length := by omega
      have ez : ds[ds.length - (j + 1)] = z := by
        rw [show ds.length - 1 - j = ds.length - (j + 1) by omega, List.getElem?_eq_getElem hlt] at hz
        exact Option.some.inj hz
      have e := foldr_drop (fp i) ds hlt
      rw [show ds.length - (j + 1) + 1 = ds.length - j by omega, ez] at e
      refine ⟨_, rfl, _, rfl, fa, CF, dx, _, _, rfl, hf, T.clF, T.fF_prime, fF_prime i m, _, _, rfl, rfl, .inr ⟨by omega, by omega⟩, _, rfl, _, _, rfl, rfl, some (.int z), ?_, rfl⟩
      rw [e]; rfl
    · rintro σ H' ⟨v, rfl, rfl⟩
      refine ⟨_, rfl, ?_⟩
      rw [vi_len, Nat.sub_self, List.drop_zero]
      exact k

/-! ### plus -/
abbrev s_Field_plus : Stmt := inClass (top 19) 4
abbrev N_Field_plus : List Str := ["self", "a", "b", "first", "second", "k"]
theorem sc_Field_plus : FnScope N_Field_plus ["self", "a", "b"] (defScope s_Field_plus) := ⟨rfl, rfl, rfl, by decide +kernel, rfl, by decide +kernel, by decide +kernel⟩
def sp_plus (K : PySem.W.Frag) (CF : Addr) : Sp := fun vs H Q _ => ∃ (fa : Addr) (i : Fin 8) (a b : GF i), vs = [.ref fa, .int a.enc, .int b.enc] ∧ FieldAt K CF H fa i ∧ GV H Q (.int (a + b).enc)
theorem ok_plus {f : Addr} {fd' : FuncData} (F : Fun K "plus" "Field.plus" s_Field_plus f fd') (T : Txt K mg CF CE CI)
    (c1 : CalM P w K mg base CX0 CF "digits" ["self", "a"] 2 (sp_digits K CF)) (c2 : CalM P w K mg base CX0 CF "element" ["self", "digits"] 1 (sp_element K CF)) : FnOk P w K mg base CX0 3 f fd' ["self", "a", "b"] (sp_plus K CF) := by
  obtain ⟨f_Field_digits, _, ok_Field_digits, m_Field_digits, b_Field_digits⟩ := c1
  obtain ⟨f_Field_element, _, ok_Field_element, m_Field_element, b_Field_element⟩ := c2
  refine F.ok sc_Field_plus (fun vs H Q E h => ?_) (fun cdv A outer s H vs Q E hr h => ?_)
  · obtain ⟨fa, i, a, b, rfl, _⟩ := h; rfl
  · obtain ⟨fa, i, a, b, rfl, hF, k⟩ := h
    have hF' := hF
    obtain ⟨dx, m, hf, hm⟩ := hF'
    have p2 := fp_pos i
    have p7 := fp_le i
    have d3 := fd_le i
    have d1 := fd_pos i
    refine ⟨_, (pss_cons (ps_if (pt_cmpR op_eq (pe_fld (pv 0) rfl) pe_int (nomark _)) (pss_one (ps_ret (pe_op op_mod (pe_op op_add (pv 1) (pv 2)) (pe_fld (pv 0) rfl)))) pss_nil)
      (pss_cons (ps_set (i := 3) sc_Field_plus.nd rfl (Or.inr rfl) (pe_meth (pv 0) T.clF m_Field_digits ok_Field_digits (hr.mono (by decide)) b_Field_digits .nil pass0 (pa_cons (pv 1) pa_nil)))
      (pss_cons (ps_set (i := 4) sc_Field_plus.nd rfl (Or.inr rfl) (pe_meth (pv 0) T.clF m_Field_digits ok_Field_digits (hr.mono (by decide)) b_Field_digits .nil pass0 (pa_cons (pv 2) pa_nil)))
      (pss_one (ps_ret (pe_meth (pv 0) T.clF m_Field_element ok_Field_element (hr.mono (by decide)) b_Field_element .nil pass0 (pa_cons (pe_lc (own := [("k", 5)]) rfl sc_Field_plus.nd (pi_range1 (by rfl) T.n_range (pa_cons (pe_fld (pv 0) rfl) pa_nil)) (blkOk_by (own := [("k", 5)]) (N := N_Field_plus) (sc := defScope s_Field_plus) (by decide +kernel)) (fun _ _ _ _ _ => pg_name (i := 5) sc_Field_plus.nd rfl (Or.inl rfl)) (fun _ _ _ _ _ => pts_nil) (fun _ _ _ _ _ => (pe_op op_mod (pe_op op_add (pe_ix (ix_listK K rfl) (pv 3) (pv 5) (fun _ _ => rfl)) (pe_ix (ix_listK K rfl) (pv 4) (pv 5) (fun _ _ => rfl))) (pe_fldK K rfl (pv 0) rfl)))) pa_nil))))))), ?_⟩
    refine ⟨_, rfl, fa, CF, dx, _, _, rfl, hf, T.clF, T.fF_degree, fF_degree i m, rfl, _, rfl, ite2 (fun c => ?_) fun _ => ?_⟩
    · have c' := of_decide_eq_true c
      injection c' with c'
      refine ⟨_, rfl, _, rfl, _, _, rfl, rfl, _, rfl, fa, CF, dx, _, _, rfl, hf, T.clF, T.fF_prime, fF_prime i m, _, _, rfl, rfl, (by show (0 : Int) < fp i; omega), ?_⟩
      show Q (.int ((a.enc + b.enc) % (fp i : Int))) H
      rw [plus_one i (by omega)]
      exact k _ (Same.refl _)
    · refine ⟨_, rfl, fa, dx, _, rfl, hf, fF_digits i m, _, rfl, fa, i, _, rfl, hF, fun H1 l1 s1 n1 h1 => ?_⟩
      refine ⟨_, rfl, fa, dx, _, rfl, s1 _ _ hf, fF_digits i m, _, rfl, fa, i, _, rfl, fieldS s1 hF, fun H2 l2 s2 n2 h2 => ?_⟩
      have hf2 := s2 _ _ (s1 _ _ hf)
      refine ⟨_, rfl, fa, dx, _, rfl, hf2, fF_element i m, ?_⟩
      refine ⟨_, rfl, fa, CF, dx, _, _, rfl, hf2, T.clF, T.fF_degree, fF_degree i m, _, rfl, by omega, by omega, fun D hD => ?_⟩
      rw [Int.toNat_natCast]
      have h1' := s2 _ _ h1
      refine lc_range (fun j H' => H' = upd H2 D (.lst (vi ((List.range j).map fun k => ((bd a.enc (fp i) (fd i)).getD k 0 + (bd b.enc (fp i) (fd i)).getD k 0) % (fp i : Int))))) rfl ?_ ?_
      · rintro j H' hj rfl
        have u := newS (o := .lst (vi ((List.range j).map fun k => ((bd a.enc (fp i) (fd i)).getD k 0 + (bd b.enc (fp i) (fd i)).getD k 0) % (fp i : Int)))) hD
        refine ⟨rfl, _, rfl, _, rfl, l1, _, _, _, rfl, rfl, SqL.of (u _ _ h1'), at_of (by simp) (vi_at (j := j) (by rw [bd_length]; omega)), _, rfl, _, rfl, l2, _, _, _, rfl, rfl, SqL.of (u _ _ h2), at_of (by simp) (vi_at (j := j) (by rw [bd_length]; omega)),
          _, _, rfl, rfl, _, rfl, fa, CF, dx, _, _, rfl, u _ _ hf2, T.clF, T.fF_prime, fF_prime i m, _, _, rfl, rfl, (by show (0 : Int) < fp i; omega), _, upd_same, smallLt (by rw [vi_len, List.length_map, List.length_range]; omega), ?_⟩
        rw [upd_upd, vi_snoc, List.range_succ, List.map_append]
        rfl
      · rintro H' rfl
        have u := newS (o := .lst (vi ((List.range (fd i)).map fun k => ((bd a.enc (fp i) (fd i)).getD k 0 + (bd b.enc (fp i) (fd i)).getD k 0) % (fp i : Int)))) hD
        refine ⟨fa, D, i, _, rfl, fieldS ((s1.trans s2).trans u) hF, SqL.of upd_same, ?_⟩
        have e := plus_more i a b
        unfold plusD at e
        rw [e]
        exact k _ ((s1.trans s2).trans u)

/-! ### negative -/
abbrev s_Field_negative : Stmt := inClass (top 19) 5
abbrev N_Field_negative : List Str := ["self", "a", "digit"]
theorem sc_Field_negative : FnScope N_Field_negative ["self", "a"] (defScope s_Field_negative) := ⟨rfl, rfl, rfl, by decide +kernel, rfl, by decide +kernel, by decide +kernel⟩
def sp_negative (K : PySem.W.Frag) (CF : Addr) : Sp := fun vs H Q _ => ∃ (fa : Addr) (i : Fin 8) (a : GF i), vs = [.ref fa, .int a.enc] ∧ FieldAt K CF H fa i ∧ GV H Q (.int (-a).enc)
theorem ok_negative {f : Addr} {fd' : FuncData} (F : Fun K "negative" "Field.negative" s_Field_negative f fd') (T : Txt K mg CF CE CI)
    (c1 : CalM P w K mg base CX0 CF "digits" ["self", "a"] 2 (sp_digits K CF)) (c2 : CalM P w K mg base CX0 CF "element" ["self", "digits"] 1 (sp_element K CF)) : FnOk P w K mg base CX0 3 f fd' ["self", "a"] (sp_negative K CF) := by
  obtain ⟨f_Field_digits, _, ok_Field_digits, m_Field_digits, b_Field_digits⟩ := c1
  obtain ⟨f_Field_element, _, ok_Field_element, m_Field_element, b_Field_element⟩ := c2
  refine F.ok sc_Field_negative (fun vs H Q E h => ?_) (fun cdv A outer s H vs Q E hr h => ?_)
  · obtain ⟨fa, i, a, rfl, _⟩ := h; rfl
  · obtain ⟨fa, i, a, rfl, hF, k⟩ := h
    have hF' := hF
    obtain ⟨dx, m, hf, hm⟩ := hF'
    have p2 := fp_pos i
    have p7 := fp_le i
    have d3 := fd_le i
    refine ⟨_, (pss_one (ps_ret (pe_meth (pv 0) T.clF m_Field_element ok_Field_element (hr.mono (by decide)) b_Field_element .nil pass0 (pa_cons (pe_lc (own := [("digit", 2)]) rfl sc_Field_negative.nd (pi_list (pe_meth (pv 0) T.clF m_Field_digits ok_Field_digits (hr.mono (by decide)) b_Field_digits .nil pass0 (pa_cons (pv 1) pa_nil))) (blkOk_by (own := [("digit", 2)]) (N := N_Field_negative) (sc := defScope s_Field_negative) (by decide +kernel)) (fun _ _ _ _ _ => pg_name (i := 2) sc_Field_negative.nd rfl (Or.inl rfl)) (fun _ _ _ _ _ => pts_nil) (fun _ _ _ _ _ => (pe_op op_mod (pe_op op_sub pe_int (pv 2)) (pe_fldK K rfl (pv 0) rfl)))) pa_nil)))), ?_⟩
    refine ⟨_, rfl, fa, dx, _, rfl, hf, fF_element i m, ?_⟩
    refine ⟨_, rfl, fa, dx, _, rfl, hf, fF_digits i m, _, rfl, fa, i, _, rfl, hF, fun H1 l1 s1 n1 h1 => ?_⟩
    refine ⟨l1, rfl, ⟨_, SqL.of h1⟩, fun D hD => ?_⟩
    have hf1 := s1 _ _ hf
    refine lc_list (K := K) (a := l1) (xs := vi (bd a.enc (fp i) (fd i))) (fun j H' => H' = upd H1 D (.lst (vi (((bd a.enc (fp i) (fd i)).take j).map fun z => (0 - z) % (fp i : Int))))) rfl (fun j H' _ e => by rw [e]; exact SqL.of (newS hD _ _ h1)) ?_ ?_
    · rintro j x H' hx rfl
      obtain ⟨z, hz, rfl⟩ := vi_get hx
      have u := newS (o := .lst (vi (((bd a.enc (fp i) (fd i)).take j).map fun z => (0 - z) % (fp i : Int)))) hD
      have hjl : j < fd i := by have := (List.getElem?_eq_some_iff.mp hz).1; rwa [bd_length] at this
      refine ⟨rfl, _, rfl, _, _, rfl, rfl, _, rfl, fa, CF, dx, _, _, rfl, u _ _ hf1, T.clF, T.fF_prime, fF_prime i m, _, _, rfl, rfl, (by show (0 : Int) < fp i; omega), _, upd_same, smallLt (by rw [vi_len, List.length_map, List.length_take, bd_length]; omega), ?_⟩
      rw [upd_upd, vi_snoc, List.take_add_one, hz, List.map_append]
      rfl
    · rintro H' rfl
      rw [vi_len, List.take_length]
      have u := newS (o := .lst (vi ((bd a.enc (fp i) (fd i)).map fun z => (0 - z) % (fp i : Int)))) hD
      refine ⟨fa, D, i, _, rfl, fieldS (s1.trans u) hF, SqL.of upd_same, ?_⟩
      have e := neg_any i a
      unfold negD at e
      rw [e]
      exact k _ (s1.trans u)

/-! ### minus -/
abbrev s_Field_minus : Stmt := inClass (top 19) 6
abbrev N_Field_minus : List Str := ["self", "a", "b"]
theorem sc_Field_minus : FnScope N_Field_minus ["self", "a", "b"] (defScope s_Field_minus) := ⟨rfl, rfl, rfl, by decide +kernel, rfl, by decide +kernel, by decide +kernel⟩
def sp_minus (K : PySem.W.Frag) (CF : Addr) : Sp := fun vs H Q _ => ∃ (fa : Addr) (i : Fin 8) (a b : GF i), vs = [.ref fa, .int a.enc, .int b.enc] ∧ FieldAt K CF H fa i ∧ GV H Q (.int (a - b).enc)
theorem ok_minus {f : Addr} {fd' : FuncData} (F : Fun K "minus" "Field.minus" s_Field_minus f fd') (T : Txt K mg CF CE CI)
    (c1 : CalM P w K mg base CX0 CF "plus" ["self", "a", "b"] 3 (sp_plus K CF)) (c2 : CalM P w K mg base CX0 CF "negative" ["self", "a"] 3 (sp_negative K CF)) : FnOk P w K mg base CX0 4 f fd' ["self", "a", "b"] (sp_minus K CF) := by
  obtain ⟨f_Field_plus, _, ok_Field_plus, m_Field_plus, b_Field_plus⟩ := c1
  obtain ⟨f_Field_negative, _, ok_Field_negative, m_Field_negative, b_Field_negative⟩ := c2
  refine F.ok sc_Field_minus (fun vs H Q E h => ?_) (fun cdv A outer s H vs Q E hr h => ?_)
  · obtain ⟨fa, i, a, b, rfl, _⟩ := h; rfl
  · obtain ⟨fa, i, a, b, rfl, hF, k⟩ := h
    have hF' := hF
    obtain ⟨dx, m, hf, hm⟩ := hF'
    refine ⟨_, (pss_one (ps_ret (pe_meth (pv 0) T.clF m_Field_plus ok_Field_plus (hr.mono (by decide)) b_Field_plus .nil pass0 (pa_cons (pv 1) (pa_cons (pe_meth (pv 0) T.clF m_Field_negative ok_Field_negative (hr.mono (by decide)) b_Field_negative .nil pass0 (pa_cons (pv 2) pa_nil)) pa_nil))))), ?_⟩
    refine ⟨_, rfl, fa, dx, _, rfl, hf, fF_plus i m, _, rfl, _, rfl, fa, dx, _, rfl, hf, fF_negative i m, _, rfl, fa, i, b, rfl, hF, fun H1 s1 => ?_⟩
    refine ⟨fa, i, a, -b, rfl, fieldS s1 hF, fun H2 s2 => ?_⟩
    have e : a + -b = a - b := by grind
    rw [e]
    exact k _ (s1.trans s2)
end
end NW

set_option Elab.async false
set_option linter.all false
set_option maxRecDepth 100000
set_option maxHeartbeats 4000000
namespace NW
open PySem L2 GP
theorem rep_vi (n : Nat) : (List.replicate n [V.int 0]).flatten = vi (List.replicate n 0) := by
  induction n with
  | zero => rfl
  | succ n ih => rw [List.replicate_succ, List.flatten_cons, ih]; rfl
theorem bd_range {n b : Int} (hb : 0 < b) (k : Nat) : ∀ z ∈ bd n b k, 0 ≤ z ∧ z < b := by
  intro z hz
  obtain ⟨t, _, rfl⟩ := List.mem_map.mp hz
  exact ⟨Int.emod_nonneg _ (by omega), Int.emod_lt_of_pos _ hb⟩
theorem enc_lt10 {i : Fin 8} (a : GF i) : a.enc < 10 := by
  have h1 := a.enc_lt
  have h2 := fq_le i
  unfold fq at h2
  omega
theorem getD_mem {ns : List Int} {j : Nat} (h : j < ns.length) : ns.getD j 0 ∈ ns := by
  rw [List.getD_eq_getElem?_getD, List.getElem?_eq_getElem h]; exact List.getElem_mem h
section
variable {P : Program} {w : World} {K : PySem.W.Frag} {mg : Str → Option Value} {base : Heap} {CF CE CI : Addr}

/-! ### times -/
abbrev s_Field_times : Stmt := inClass (top 19) 7
abbrev N_Field_times : List Str := ["self", "a", "b", "first", "second", "product", "i", "j"]
theorem sc_Field_times : FnScope N_Field_times ["self", "a", "b"] (defScope s_Field_times) := ⟨rfl, rfl, rfl, by decide +kernel, rfl, by decide +kernel, by decide +kernel⟩
def sp_times (K : PySem.W.Frag) (CF : Addr) : Sp := fun vs H Q _ => ∃ (fa : Addr) (i : Fin 8) (a b : GF i), vs = [.ref fa, .int a.enc, .int b.enc] ∧ FieldAt K CF H fa i ∧ GV H Q (.int (a * b).enc)
theorem ok_times {f : Addr} {fd' : FuncData} (F : Fun K "times" "Field.times" s_Field_times f fd') (T : Txt K mg CF CE CI)
    (c1 : CalM P w K mg base CX0 CF "digits" ["self", "a"] 2 (sp_digits K CF)) (c2 : CalM P w K mg base CX0 CF "element" ["self", "digits"] 1 (sp_element K CF))
    (c3 : Cal P w K mg base CX0 "integer_remainder" ["prime", "items", "divisor"] 1 (sp_integer_remainder K)) : FnOk P w K mg base CX0 3 f fd' ["self", "a", "b"] (sp_times K CF) := by
  obtain ⟨f_Field_digits, _, ok_Field_digits, m_Field_digits, b_Field_digits⟩ := c1
  obtain ⟨f_Field_element, _, ok_Field_element, m_Field_element, b_Field_element⟩ := c2
  obtain ⟨f_integer_remainder, _, ok_integer_remainder, mg_integer_remainder, kp_integer_remainder, b_integer_remainder⟩ := c3
  refine F.ok sc_Field_times (fun vs H Q E h => ?_) (fun cdv A outer s H vs Q E hr h => ?_)
  · obtain ⟨fa, i, a, b, rfl, _⟩ := h; rfl
  · obtain ⟨fa, i, a, b, rfl, hF, k⟩ := h
    have hF' := hF
    obtain ⟨dx, m, hf, hm⟩ := hF'
    have p2 := fp_pos i
    have p7 := fp_le i
    have d3 := fd_le i
    have d1 := fd_pos i
    have q9 := fq_le i
    have ml := fm_length i
    have ha := enc_lt10 a
    have ha0 := a.enc_nonneg
    refine ⟨_, (pss_cons (ps_if (pt_cmpR op_eq (pe_fld (pv 0) rfl) pe_int (nomark _)) (pss_one (ps_ret (pe_op op_mod (pe_op op_mul (pv 1) (pv 2)) (pe_fld (pv 0) rfl)))) pss_nil)
      (pss_cons (ps_set (i := 3) sc_Field_times.nd rfl (Or.inl rfl) (pe_meth (pv 0) T.clF m_Field_digits ok_Field_digits (hr.mono (by decide)) b_Field_digits .nil pass0 (pa_cons (pv 1) pa_nil)))
      (pss_cons (ps_set (i := 4) sc_Field_times.nd rfl (Or.inl rfl) (pe_meth (pv 0) T.clF m_Field_digits ok_Field_digits (hr.mono (by decide)) b_Field_digits .nil pass0 (pa_cons (pv 2) pa_nil)))
      (pss_cons (ps_set (i := 5) sc_Field_times.nd rfl (Or.inl rfl) (pe_op op_rep (pe_lst (pa_cons pe_int pa_nil)) (pe_op op_sub (pe_op op_mul pe_int (pe_fld (pv 0) rfl)) pe_int)))
      (pss_cons (ps_for PassesOwn.never rfl (pi_range1 (by rfl) T.n_range (pa_cons (pe_fld (pv 0) rfl) pa_nil)) (pg_name (i := 6) sc_Field_times.nd rfl (Or.inl rfl)) (pss_one (ps_for PassesOwn.never rfl (pi_range1 (by rfl) T.n_range (pa_cons (pe_fld (pv 0) rfl) pa_nil)) (pg_name (i := 7) sc_Field_times.nd rfl (Or.inl rfl)) (pss_one (ps_asg (pe_op op_mod (pe_op op_add (pe_ix ix_list (pv 5) (pe_op op_add (pv 6) (pv 7)) (fun _ _ => rfl)) (pe_op op_mul (pe_ix ix_list (pv 3) (pv 6) (fun _ _ => rfl)) (pe_ix ix_list (pv 4) (pv 7) (fun _ _ => rfl)))) (pe_fld (pv 0) rfl)) (pg_sub (pv 5) (pe_op op_add (pv 6) (pv 7)) set_list))))))
      (pss_one (ps_ret (pe_meth (pv 0) T.clF m_Field_element ok_Field_element (hr.mono (by decide)) b_Field_element .nil pass0 (pa_cons (pe_call ok_integer_remainder (hr.mono (by decide)) (by rfl) mg_integer_remainder kp_integer_remainder b_integer_remainder .nil pass0 (pa_cons (pe_fld (pv 0) rfl) (pa_cons (pv 5) (pa_cons (pe_fld (pv 0) rfl) pa_nil)))) pa_nil))))))))), ?_⟩
    refine ⟨_, rfl, fa, CF, dx, _, _, rfl, hf, T.clF, T.fF_degree, fF_degree i m, rfl, _, rfl, ite2 (fun c => ?_) fun _ => ?_⟩
    · have c' := of_decide_eq_true c
      injection c' with c'
      refine ⟨_, rfl, _, rfl, _, _, rfl, rfl, .inl ⟨by omega, by omega⟩, _, rfl, fa, CF, dx, _, _, rfl, hf, T.clF, T.fF_prime, fF_prime i m, _, _, rfl, rfl, (by show (0 : Int) < fp i; omega), ?_⟩
      show Q (.int ((a.enc * b.enc) % (fp i : Int))) H
      rw [times_one i (by omega)]
      exact k _ (Same.refl _)
    · refine ⟨_, rfl, fa, dx, _, rfl, hf, fF_digits i m, _, rfl, fa, i, _, rfl, hF, fun H1 l1 s1 n1 h1 => ?_⟩
      refine ⟨_, rfl, fa, dx, _, rfl, s1 _ _ hf, fF_digits i m, _, rfl, fa, i, _, rfl, fieldS s1 hF, fun H2 l2 s2 n2 h2 => ?_⟩
      have hf2 := s2 _ _ (s1 _ _ hf)
      have h1' := s2 _ _ h1
      -- product = [0] * (2 * self.degree - 1)
      refine ⟨by show 1 ≤ sizeLine; decide, fun z hz => ?_⟩
      have hf3 := newS (o := .lst [.int 0]) hz _ _ hf2
      refine ⟨_, rfl, fa, CF, dx, _, _, rfl, hf3, T.clF, T.fF_degree, fF_degree i m, _, _, rfl, rfl, .inl ⟨by omega, by omega⟩, _, _, rfl, rfl, z, _, _, rfl, rfl, upd_same, by show -(2 ^ 63) ≤ (2 * (fd i : Int) - 1); omega, by show (2 * (fd i : Int) - 1) < 2 ^ 63; omega, small (by show 1 * (2 * (fd i : Int) - 1).toNat ≤ _; omega), fun y hy => ?_⟩
      have en : (2 * (fd i : Int) - 1).toNat = 2 * fd i - 1 := by omega
      show tSeq _ _ _ _ (upd _ y (.lst (List.replicate (2 * (fd i : Int) - 1).toNat [V.int 0]).flatten))
      rw [en, rep_vi]
      generalize hHz : upd H2 z (.lst [.int 0]) = H3 at *
      have s3 : Same H2 H3 := by rw [← hHz]; exact newS hz
      have h1'' := s3 _ _ h1'
      have h2'' := s3 _ _ h2
      have hA := bd_range (n := a.enc) (show (0 : Int) < fp i by omega) (fd i)
      have hB := bd_range (n := b.enc) (show (0 : Int) < fp i by omega) (fd i)
      -- for i in range(self.degree)
      refine ⟨_, rfl, fa, CF, dx, _, _, rfl, newS hy _ _ hf3, T.clF, T.fF_degree, fF_degree i m, _, rfl, by omega, by omega, ?_⟩
      rw [Int.toNat_natCast]
      refine for_range (fun s σ H' => ∃ v1 v2, σ = [some (.ref fa), some (.int a.enc), some (.int b.enc), some (.ref l1), some (.ref l2), some (.ref y), v1, v2] ∧ H' = upd H3 y (.lst (vi (prodOut (fp i) (bd a.enc (fp i) (fd i)) (bd b.enc (fp i) (fd i)) (fd i) s (List.replicate (2 * fd i - 1) 0))))) ⟨none, none, rfl, rfl⟩ ?_ ?_
      · rintro s σ H' hs ⟨v1, v2, rfl, rfl⟩
        generalize hR : prodOut (fp i) (bd a.enc (fp i) (fd i)) (bd b.enc (fp i) (fd i)) (fd i) s (List.replicate (2 * fd i - 1) 0) = R
        have hRl : R.length = 2 * fd i - 1 := by rw [← hR, prodOut_length, List.length_replicate]
        refine ⟨_, rfl, fa, CF, dx, _, _, rfl, newS hy _ _ hf3, T.clF, T.fF_degree, fF_degree i m, _, rfl, by omega, by omega, ?_⟩
        rw [Int.toNat_natCast]
        refine for_range (fun t σ H' => ∃ v2, σ = [some (.ref fa), some (.int a.enc), some (.int b.enc), some (.ref l1), some (.ref l2), some (.ref y), some (.int (s : Nat)), v2] ∧ H' = upd H3 y (.lst (vi (prodIn (fp i) (bd a.enc (fp i) (fd i)) (bd b.enc (fp i) (fd i)) s t R)))) ⟨v2, by simp [gName], rfl⟩ ?_ ?_
        · rintro t σ H' ht ⟨v2, rfl, rfl⟩
          have u := newS (o := .lst (vi (prodIn (fp i) (bd a.enc (fp i) (fd i)) (bd b.enc (fp i) (fd i)) s t R))) hy
          have hl : s + t < (prodIn (fp i) (bd a.enc (fp i) (fd i)) (bd b.enc (fp i) (fd i)) s t R).length := by rw [prodIn_length]; omega
          have ei : ((s : Nat) : Int) + (0 + (t : Nat)) = ((s + t : Nat) : Int) := by omega
          have hAs := hA _ (getD_mem (j := s) (by rw [bd_length]; omega))
          refine ⟨_, rfl, _, rfl, _, rfl, _, _, rfl, rfl, y, _, _, _, rfl, rfl, SqL.of upd_same, at_of ei (vi_at hl), _, rfl, _, rfl, l1, _, _, _, rfl, rfl, SqL.of (u _ _ h1''), at_nat (vi_at (j := s) (by rw [bd_length]; omega)),
            _, rfl, _, rfl, l2, _, _, _, rfl, rfl, SqL.of (u _ _ h2''), at_of (by simp) (vi_at (j := t) (by rw [bd_length]; omega)), _, _, rfl, rfl, .inl ⟨by omega, by omega⟩, _, _, rfl, rfl, _, rfl, fa, CF, dx, _, _, rfl, u _ _ hf3, T.clF, T.fF_prime, fF_prime i m, _, _, rfl, rfl, (by show (0 : Int) < fp i; omega),
            _, rfl, _, rfl, _, rfl, _, _, rfl, rfl, y, _, _, _, rfl, rfl, upd_same, ixN_of ei (by rw [vi_len]; exact hl), some (.int (0 + (t : Nat))), rfl, ?_⟩
          rw [upd_upd, vi_set]
          rfl
        · rintro σ H' ⟨v2, rfl, rfl⟩
          refine ⟨_, _, rfl, ?_⟩
          rw [← hR]
          rfl
      · rintro σ H' ⟨v1, v2, rfl, rfl⟩
        generalize hR : prodOut (fp i) (bd a.enc (fp i) (fd i)) (bd b.enc (fp i) (fd i)) (fd i) (fd i) (List.replicate (2 * fd i - 1) 0) = R
        have hRl : R.length = 2 * fd i - 1 := by rw [← hR, prodOut_length, List.length_replicate]
        have u := newS (o := .lst (vi R)) hy
        have hf4 := u _ _ hf3
        have hm4 := sqTS (((s1.trans s2).trans s3).trans u) hm
        refine ⟨_, rfl, fa, dx, _, rfl, hf4, fF_element i m, _, rfl, fa, CF, dx, _, _, rfl, hf4, T.clF, T.fF_prime, fF_prime i m, _, rfl, _, rfl, fa, CF, dx, _, _, rfl, hf4, T.clF, T.fF_modulus, fF_modulus i m,
          (fp i : Int), y, m, R, fm i, rfl, by omega, .inl (SqL.of upd_same), .inr hm4, by omega, by omega, by omega, fun z hz => by have := fm_range i z hz; omega, fun H5 l5 s5 n5 h5 => ?_⟩
        have s15 := (((s1.trans s2).trans s3).trans u).trans s5
        refine ⟨fa, l5, i, _, rfl, fieldS s15 hF, SqL.of h5, ?_⟩
        have e := times_more i a b
        unfold timesD at e
        rw [hR] at e
        rw [e]
        exact k _ s15

/-! ### inverse -/
abbrev s_Field_inverse : Stmt := inClass (top 19) 8
abbrev N_Field_inverse : List Str := ["self", "a", "b"]
theorem sc_Field_inverse : FnScope N_Field_inverse ["self", "a"] (defScope s_Field_inverse) := ⟨rfl, rfl, rfl, by decide +kernel, rfl, by decide +kernel, by decide +kernel⟩
def sp_inverse (K : PySem.W.Frag) (CF : Addr) : Sp := fun vs H Q _ => ∃ (fa : Addr) (i : Fin 8) (a : GF i), vs = [.ref fa, .int a.enc] ∧ FieldAt K CF H fa i ∧ a ≠ 0 ∧ GV H Q (.int (a⁻¹).enc)
theorem ok_inverse {f : Addr} {fd' : FuncData} (F : Fun K "inverse" "Field.inverse" s_Field_inverse f fd') (T : Txt K mg CF CE CI)
    (c1 : CalM P w K mg base CX0 CF "times" ["self", "a", "b"] 3 (sp_times K CF)) : FnOk P w K mg base CX0 4 f fd' ["self", "a"] (sp_inverse K CF) := by
  obtain ⟨f_Field_times, _, ok_Field_times, m_Field_times, b_Field_times⟩ := c1
  refine F.ok sc_Field_inverse (fun vs H Q E h => ?_) (fun cdv A outer s H vs Q E hr h => ?_)
  · obtain ⟨fa, i, a, rfl, _⟩ := h; rfl
  · obtain ⟨fa, i, a, rfl, hF, ha, k⟩ := h
    have hF' := hF
    obtain ⟨dx, m, hf, hm⟩ := hF'
    have hinv := Lean.Grind.Field.mul_inv_cancel ha
    have i0 := (a⁻¹).enc_nonneg
    have i1 := (a⁻¹).enc_lt
    have ine : (a⁻¹).enc ≠ 0 := fun z => inv_ne ha (GF.enc_inj (by rw [z, GF.enc_zero]))
    refine ⟨_, (pss_cons (ps_if (pt_cmpR op_eq (pv 1) pe_int (nomark _)) (pss_one ps_never) pss_nil)
      (pss_cons (ps_set (i := 2) sc_Field_inverse.nd rfl (Or.inl rfl) pe_int)
      (pss_cons (ps_while PassesOwn.never (pt_cmpR op_ne (pe_meth (pv 0) T.clF m_Field_times ok_Field_times (hr.mono (by decide)) b_Field_times .nil pass0 (pa_cons (pv 1) (pa_cons (pv 2) pa_nil))) pe_int (nomark _)) (pss_one (ps_set (i := 2) sc_Field_inverse.nd rfl (Or.inl rfl) (pe_op op_add (pv 2) pe_int))))
      (pss_one (ps_ret (pv 2)))))), ?_⟩
    refine ⟨_, rfl, rfl, _, rfl, ite2 (fun c => ?_) fun _ => ?_⟩
    · have c' := of_decide_eq_true c
      injection c' with c'
      exact absurd (GF.enc_inj (c'.trans GF.enc_zero.symm)) ha
    refine ⟨fun n σ H' => ∃ b : Nat, σ = [some (.ref fa), some (.int a.enc), some (.int b)] ∧ 1 ≤ b ∧ (b : Int) ≤ (a⁻¹).enc ∧ n = ((a⁻¹).enc - b).toNat ∧ Same H H', ⟨_, 1, rfl, by omega, by omega, rfl, Same.refl _⟩, ?_⟩
    rintro n σ H1 ⟨b, rfl, b1, b2, rfl, s1⟩
    obtain ⟨bb, hbb⟩ := GF.enc_surj (i := i) (z := (b : Int)) (by omega) (by omega)
    refine ⟨_, rfl, fa, dx, _, rfl, s1 _ _ hf, fF_times i m, _, rfl, _, rfl, fa, i, a, bb, by rw [hbb]; rfl, fieldS s1 hF, fun H2 s2 => ⟨rfl, _, rfl, ?_⟩⟩
    by_cases hab : a * bb = 1
    · rw [hab, GF.enc_one]
      refine iteF ⟨_, rfl, ?_⟩
      have e : bb = a⁻¹ := by
        have : bb = (a * a⁻¹) * bb := by rw [hinv]; grind
        rw [this]
        have e2 : a * a⁻¹ * bb = (a * bb) * a⁻¹ := by grind
        rw [e2, hab]; grind
      rw [← hbb, e]
      exact k _ (s1.trans s2)
    · have hne : (a * bb).enc ≠ 1 := fun z => hab (GF.enc_inj (z.trans GF.enc_one.symm))
      have ht : (!decide (V.int (a * bb).enc = V.int 1)) = true := by
        rw [decide_eq_false (fun z => hne (by injection z))]; rfl
      rw [ht]
      refine iteT ⟨fun σ' H' => ∃ b' : Nat, σ' = [some (.ref fa), some (.int a.enc), some (.int b')] ∧ b' = b + 1 ∧ (b' : Int) ≤ (a⁻¹).enc ∧ Same H H', ?_, ?_⟩
      · rintro σ' H' ⟨b', rfl, rfl, hb', s'⟩
        exact ⟨_, by omega, b + 1, rfl, by omega, hb', rfl, s'⟩
      · refine ⟨_, rfl, _, _, rfl, rfl, b + 1, ?_, rfl, ?_, s1.trans s2⟩
        · have e : ((b + 1 : Nat) : Int) = (b : Int) + 1 := by omega
          rw [e]; rfl
        · have : (b : Int) ≠ (a⁻¹).enc := fun z => hab (by
            have : bb = a⁻¹ := GF.enc_inj (hbb.trans z)
            rw [this, hinv])
          omega

/-! ### over -/
abbrev s_Field_over : Stmt := inClass (top 19) 9
abbrev N_Field_over : List Str := ["self", "a", "b"]
theorem sc_Field_over : FnScope N_Field_over ["self", "a", "b"] (defScope s_Field_over) := ⟨rfl, rfl, rfl, by decide +kernel, rfl, by decide +kernel, by decide +kernel⟩
def sp_over (K : PySem.W.Frag) (CF : Addr) : Sp := fun vs H Q _ => ∃ (fa : Addr) (i : Fin 8) (a b : GF i), vs = [.ref fa, .int a.enc, .int b.enc] ∧ FieldAt K CF H fa i ∧ b ≠ 0 ∧ GV H Q (.int (a * b⁻¹).enc)
theorem ok_over {f : Addr} {fd' : FuncData} (F : Fun K "over" "Field.over" s_Field_over f fd') (T : Txt K mg CF CE CI)
    (c1 : CalM P w K mg base CX0 CF "times" ["self", "a", "b"] 3 (sp_times K CF)) (c2 : CalM P w K mg base CX0 CF "inverse" ["self", "a"] 4 (sp_inverse K CF)) : FnOk P w K mg base CX0 5 f fd' ["self", "a", "b"] (sp_over K CF) := by
  obtain ⟨f_Field_times, _, ok_Field_times, m_Field_times, b_Field_times⟩ := c1
  obtain ⟨f_Field_inverse, _, ok_Field_inverse, m_Field_inverse, b_Field_inverse⟩ := c2
  refine F.ok sc_Field_over (fun vs H Q E h => ?_) (fun cdv A outer s H vs Q E hr h => ?_)
  · obtain ⟨fa, i, a, b, rfl, _⟩ := h; rfl
  · obtain ⟨fa, i, a, b, rfl, hF, hb, k⟩ := h
    have hF' := hF
    obtain ⟨dx, m, hf, hm⟩ := hF'
    refine ⟨_, (pss_one (ps_ret (pe_meth (pv 0) T.clF m_Field_times ok_Field_times (hr.mono (by decide)) b_Field_times .nil pass0 (pa_cons (pv 1) (pa_cons (pe_meth (pv 0) T.clF m_Field_inverse ok_Field_inverse (hr.mono (by decide)) b_Field_inverse .nil pass0 (pa_cons (pv 2) pa_nil)) pa_nil))))), ?_⟩
    refine ⟨_, rfl, fa, dx, _, rfl, hf, fF_times i m, _, rfl, _, rfl, fa, dx, _, rfl, hf, fF_inverse i m, _, rfl, fa, i, b, rfl, hF, hb, fun H1 s1 => ?_⟩
    exact ⟨fa, i, a, b⁻¹, rfl, fieldS s1 hF, fun H2 s2 => k _ (s1.trans s2)⟩
end
end NW

set_option Elab.async false
set_option linter.all false
set_option maxRecDepth 100000
set_option maxHeartbeats 4000000
namespace NW
open PySem L2 GP
/-! ### lists of elements -/
abbrev ve {i : Fin 8} (P : List (GF i)) : List V := vi (P.map GF.enc)
section
variable {i : Fin 8}
theorem ve_len (P : List (GF i)) : (ve P).length = P.length := by rw [vi_len, List.length_map]
theorem ve_get {P : List (GF i)} {j : Nat} {x : V} (h : (ve P)[j]? = some x) : ∃ a, P[j]? = some a ∧ x = .int a.enc := by
  obtain ⟨z, hz, rfl⟩ := vi_get h
  rw [List.getElem?_map] at hz
  cases e : P[j]? with
  | none => rw [e] at hz; cases hz
  | some a => rw [e] at hz; exact ⟨a, rfl, by rw [← Option.some.inj hz]⟩
theorem ve_at {P : List (GF i)} {j : Nat} (h : j < P.length) : (ve P)[j]? = some (.int (P.getD j 0).enc) := by
  rw [List.getElem?_map, List.getElem?_map, List.getD_eq_getElem?_getD, List.getElem?_eq_getElem h]; rfl
theorem ve_of {P : List (GF i)} {j : Nat} {a : GF i} (h : P[j]? = some a) : (ve P)[j]? = some (.int a.enc) := by
  rw [List.getElem?_map, List.getElem?_map, h]; rfl
theorem ve_set (P : List (GF i)) (j : Nat) (a : GF i) : (ve P).set j (.int a.enc) = ve (P.set j a) := by
  rw [vi_set, ← List.map_set]
theorem ve_snoc (P : List (GF i)) (a : GF i) : ve P ++ [.int a.enc] = ve (P ++ [a]) := by simp [vi]
theorem ve_zeros (n : Nat) : vi (List.replicate n 0) = ve (List.replicate n (0 : GF i)) := by
  show _ = vi ((List.replicate n (0 : GF i)).map GF.enc)
  rw [List.map_replicate, GF.enc_zero]
theorem ve_dropLast (P : List (GF i)) : (ve P).dropLast = ve P.dropLast := by
  show (vi (P.map GF.enc)).dropLast = vi (P.dropLast.map GF.enc)
  rw [List.map_dropLast]
  unfold vi
  rw [List.map_dropLast]
theorem enc_zero_iff (a : GF i) : V.int a.enc = V.int 0 ↔ a = 0 := ⟨fun h => GF.enc_inj (by rw [GF.enc_zero]; injection h), fun h => by rw [h, GF.enc_zero]⟩
theorem trim_last {P : List (GF i)} {n : Nat} (h : P.length = n + 1) (hz : P.getD n 0 = 0) : trim P.dropLast = trim P := by
  obtain ⟨R, c, rfl, hl, hc⟩ := snoc_of h
  rw [hc] at hz
  rw [List.dropLast_concat, hz, trim_snoc_zero]
end
section
variable {P : Program} {w : World} {K : PySem.W.Frag} {mg : Str → Option Value} {base : Heap} {CF CE CI : Addr}

/-! ### degree_of -/
abbrev s_degree_of : Stmt := top 29
abbrev N_degree_of : List Str := ["poly"]
theorem sc_degree_of : FnScope N_degree_of ["poly"] (defScope s_degree_of) := ⟨rfl, rfl, rfl, by decide +kernel, rfl, by decide +kernel, by decide +kernel⟩
def sp_degree_of (K : PySem.W.Frag) : Sp := fun vs H Q _ => ∃ (l : Addr) (xs : List V), vs = [.ref l] ∧ SqL K H l xs ∧ Q (.int ((xs.length : Int) - 1)) H
theorem ok_degree_of {f : Addr} {fd' : FuncData} (F : Fun K "degree_of" "degree_of" s_degree_of f fd') (T : Txt K mg CF CE CI) : FnOk P w K mg base CX0 1 f fd' ["poly"] (sp_degree_of K) := by
  refine F.ok sc_degree_of (fun vs H Q E h => ?_) (fun cdv A outer s H vs Q E hr h => ?_)
  · obtain ⟨l, xs, rfl, _⟩ := h; rfl
  · obtain ⟨l, xs, rfl, hl, k⟩ := h
    refine ⟨_, (pss_one (ps_ret (pe_op op_sub (pe_callB call_len_seq (by rfl) T.n_len bt_len (pa_cons (pv 0) pa_nil)) pe_int))), ?_⟩
    exact ⟨_, rfl, l, _, rfl, .inl hl, _, _, rfl, rfl, k⟩

/-! ### poly_trim -/
abbrev s_poly_trim : Stmt := top 30
abbrev N_poly_trim : List Str := ["items", "result"]
theorem sc_poly_trim : FnScope N_poly_trim ["items"] (defScope s_poly_trim) := ⟨rfl, rfl, rfl, by decide +kernel, rfl, by decide +kernel, by decide +kernel⟩
def sp_poly_trim (K : PySem.W.Frag) : Sp := fun vs H Q _ => ∃ (i : Fin 8) (l : Addr) (A : List (GF i)), vs = [.ref l] ∧ SqL K H l (ve A) ∧ GL H Q (ve (trim A))
theorem ok_poly_trim {f : Addr} {fd' : FuncData} (F : Fun K "poly_trim" "poly_trim" s_poly_trim f fd') (T : Txt K mg CF CE CI) : FnOk P w K mg base CX0 1 f fd' ["items"] (sp_poly_trim K) := by
  refine F.ok sc_poly_trim (fun vs H Q E h => ?_) (fun cdv A outer s H vs Q E hr h => ?_)
  · obtain ⟨i, l, A, rfl, _⟩ := h; rfl
  · obtain ⟨i, l, A, rfl, hl, k⟩ := h
    refine ⟨_, (pss_cons (ps_set (i := 1) sc_poly_trim.nd rfl (Or.inl rfl) (pe_callTy call_list_of (by rfl) T.n_list bt_list (pa_cons (pv 0) pa_nil)))
      (pss_cons (ps_while PassesOwn.never (PW.pt (pw_and (pt_cmpR op_gt (pe_callB call_len_seq (by rfl) T.n_len bt_len (pa_cons (pv 1) pa_nil)) pe_int (nomark _)) (pw_and1 (pt_cmpR op_eq (pe_ix ix_list (pv 1) (pe_un un_neg pe_int) (fun _ _ => rfl)) pe_int (nomark _))))) (pss_one (ps_expr (pe_bm0 PySem.F.plainAttrs_list PySem.F.slot_list_pop PySem.F.type_list_pop mt_pop (pv 1)))))
      (pss_one (ps_ret (pv 1))))), ?_⟩
    refine ⟨_, rfl, l, _, rfl, .inl hl, fun r hr => ?_⟩
    refine ⟨fun n σ H' => ∃ R : List (GF i), σ = [some (.ref l), some (.ref r)] ∧ H' = upd H r (.lst (ve R)) ∧ n = R.length ∧ trim R = trim A, ⟨_, A, rfl, rfl, rfl, rfl⟩, ?_⟩
    rintro n σ H' ⟨R, rfl, rfl, rfl, ht⟩
    refine ⟨_, rfl, r, _, rfl, .inl (SqL.of upd_same), _, _, rfl, rfl, _, rfl, ?_⟩
    by_cases hn : R.length = 0
    · have e : decide ((0 : Int) < ((ve R).length : Nat)) = false := decide_eq_false (by rw [ve_len]; omega)
      rw [e]
      refine iteF (iteF ⟨_, rfl, k _ _ (newS hr) hr ?_⟩)
      rw [← ht, List.length_eq_zero_iff.mp hn]
      exact upd_same
    · have e : decide ((0 : Int) < ((ve R).length : Nat)) = true := decide_eq_true (by rw [ve_len]; omega)
      rw [e]
      obtain ⟨m, hm⟩ : ∃ m, R.length = m + 1 := ⟨R.length - 1, by omega⟩
      refine iteT ⟨_, rfl, _, rfl, r, _, _, _, rfl, rfl, SqL.of upd_same, at_neg1 (by rw [ve_len]; exact ve_at (j := R.length - 1) (by omega)), rfl, _, rfl, ?_⟩
      rw [hm, show m + 1 - 1 = m by omega]
      by_cases hz : R.getD m 0 = 0
      · rw [decide_eq_true ((enc_zero_iff _).mpr hz)]
        refine iteT ⟨fun σ' H' => σ' = [some (.ref l), some (.ref r)] ∧ H' = upd H r (.lst (ve R.dropLast)), ?_, ?_⟩
        · rintro σ' H' ⟨rfl, rfl⟩
          exact ⟨R.dropLast.length, by rw [List.length_dropLast]; omega, R.dropLast, rfl, rfl, rfl, (trim_last hm hz).trans ht⟩
        · refine ⟨_, rfl, .inl ⟨rfl, _, SqL.of upd_same⟩, r, _, _, rfl, rfl, upd_same, (by rw [ve_len]; exact ve_at (j := R.length - 1) (by omega)), rfl, ?_⟩
          rw [upd_upd, ve_dropLast]
      · rw [decide_eq_false fun z => hz ((enc_zero_iff _).mp z)]
        refine iteF ⟨_, rfl, k _ _ (newS hr) hr ?_⟩
        have tr : trim R = R := tr_of_last hm hz
        rw [← ht, tr]
        exact upd_same

/-! ### coefficient -/
abbrev s_coefficient : Stmt := top 31
abbrev N_coefficient : List Str := ["poly", "place"]
theorem sc_coefficient : FnScope N_coefficient ["poly", "place"] (defScope s_coefficient) := ⟨rfl, rfl, rfl, by decide +kernel, rfl, by decide +kernel, by decide +kernel⟩
def sp_coefficient (K : PySem.W.Frag) : Sp := fun vs H Q _ => ∃ (i : Fin 8) (l : Addr) (A : List (GF i)) (j : Nat), vs = [.ref l, .int j] ∧ SqL K H l (ve A) ∧ Q (.int (A.getD j 0).enc) H
theorem ok_coefficient {f : Addr} {fd' : FuncData} (F : Fun K "coefficient" "coefficient" s_coefficient f fd') (T : Txt K mg CF CE CI) : FnOk P w K mg base CX0 1 f fd' ["poly", "place"] (sp_coefficient K) := by
  refine F.ok sc_coefficient (fun vs H Q E h => ?_) (fun cdv A outer s H vs Q E hr h => ?_)
  · obtain ⟨i, l, A, j, rfl, _⟩ := h; rfl
  · obtain ⟨i, l, A, j, rfl, hl, k⟩ := h
    refine ⟨_, (pss_cons (ps_if (pt_cmpR op_lt (pv 1) (pe_callB call_len_seq (by rfl) T.n_len bt_len (pa_cons (pv 0) pa_nil)) (nomark _)) (pss_one (ps_ret (pe_ix ix_list (pv 0) (pv 1) (fun _ _ => rfl)))) pss_nil)
      (pss_one (ps_ret pe_int))), ?_⟩
    refine ⟨_, rfl, _, rfl, l, _, rfl, .inl hl, _, _, rfl, rfl, _, rfl, ite2 (fun c => ?_) fun c => ?_⟩
    · have c := of_decide_eq_true c
      rw [ve_len] at c
      exact ⟨_, rfl, _, rfl, l, _, _, _, rfl, rfl, hl, at_nat (ve_at (j := j) (by omega)), k⟩
    · have c : ¬ _ := fun z => c (decide_eq_true z)
      rw [ve_len] at c
      show Q (.int 0) H
      rw [cf_out (P := A) (k := j) (by omega), GF.enc_zero] at k
      exact k

/-! ### poly_add, poly_subtract -/
theorem max_int (a b : Nat) : (if (b : Int) > (a : Int) then (b : Int) else (a : Int)) = ((max a b : Nat) : Int) := by
  split <;> omega
abbrev s_poly_add : Stmt := top 32
abbrev N_poly_add : List Str := ["field", "a", "b", "size", "k"]
theorem sc_poly_add : FnScope N_poly_add ["field", "a", "b"] (defScope s_poly_add) := ⟨rfl, rfl, rfl, by decide +kernel, rfl, by decide +kernel, by decide +kernel⟩
def sp_poly_add (K : PySem.W.Frag) (CF : Addr) : Sp := fun vs H Q _ => ∃ (fa l1 l2 : Addr) (i : Fin 8) (A B : List (GF i)), vs = [.ref fa, .ref l1, .ref l2] ∧ FieldAt K CF H fa i ∧ SqL K H l1 (ve A) ∧ SqL K H l2 (ve B) ∧ A.length ≤ 1000 ∧ B.length ≤ 1000 ∧ GL H Q (ve (padd A B))
theorem ok_poly_add {f : Addr} {fd' : FuncData} (F : Fun K "poly_add" "poly_add" s_poly_add f fd') (T : Txt K mg CF CE CI)
    (c1 : CalM P w K mg base CX0 CF "plus" ["self", "a", "b"] 3 (sp_plus K CF)) (c2 : Cal P w K mg base CX0 "coefficient" ["poly", "place"] 1 (sp_coefficient K)) (c3 : Cal P w K mg base CX0 "poly_trim" ["items"] 1 (sp_poly_trim K)) :
    FnOk P w K mg base CX0 4 f fd' ["field", "a", "b"] (sp_poly_add K CF) := by
  obtain ⟨f_Field_plus, _, ok_Field_plus, m_Field_plus, b_Field_plus⟩ := c1
  obtain ⟨f_coefficient, _, ok_coefficient, mg_coefficient, kp_coefficient, b_coefficient⟩ := c2
  obtain ⟨f_poly_trim, _, ok_poly_trim, mg_poly_trim, kp_poly_trim, b_poly_trim⟩ := c3
  refine F.ok sc_poly_add (fun vs H Q E h => ?_) (fun cdv A outer s H vs Q E hr h => ?_)
  · obtain ⟨fa, l1, l2, i, A, B, rfl, _⟩ := h; rfl
  · obtain ⟨fa, l1, l2, i, A, B, rfl, hF, hA, hB, la, lb, k⟩ := h
    have hF' := hF
    obtain ⟨dx, m, hf, hm⟩ := hF'
    refine ⟨_, (pss_cons (ps_set (i := 3) sc_poly_add.nd rfl (Or.inl rfl) (pe_callB (call_max2 rfl) (by rfl) T.n_max bt_max (pa_cons (pe_callB call_len_seq (by rfl) T.n_len bt_len (pa_cons (pv 1) pa_nil)) (pa_cons (pe_callB call_len_seq (by rfl) T.n_len bt_len (pa_cons (pv 2) pa_nil)) pa_nil))))
      (pss_one (ps_ret (pe_call ok_poly_trim (hr.mono (by decide)) (by rfl) mg_poly_trim kp_poly_trim b_poly_trim .nil pass0 (pa_cons (pe_lc (own := [("k", 4)]) rfl sc_poly_add.nd (pi_range1 (by rfl) T.n_range (pa_cons (pv 3) pa_nil)) (blkOk_by (own := [("k", 4)]) (N := N_poly_add) (sc := defScope s_poly_add) (by decide +kernel)) (fun _ _ _ _ _ => pg_name (i := 4) sc_poly_add.nd rfl (Or.inl rfl)) (fun _ _ _ _ _ => pts_nil) (fun _ _ _ _ _ => (pe_meth (pv 0) T.clF m_Field_plus ok_Field_plus (hr.mono (by decide)) b_Field_plus .nil pass0 (pa_cons (pe_call ok_coefficient (hr.mono (by decide)) (by rfl) mg_coefficient kp_coefficient b_coefficient .nil pass0 (pa_cons (pv 1) (pa_cons (pv 4) pa_nil))) (pa_cons (pe_call ok_coefficient (hr.mono (by decide)) (by rfl) mg_coefficient kp_coefficient b_coefficient .nil pass0 (pa_cons (pv 2) (pa_cons (pv 4) pa_nil))) pa_nil))))) pa_nil))))), ?_⟩
    refine ⟨_, rfl, l1, _, rfl, .inl hA, _, rfl, l2, _, rfl, .inl hB, _, _, rfl, ?_⟩
    rw [max_int, ve_len, ve_len]
    refine ⟨_, rfl, _, rfl, by omega, by omega, fun D hD => ?_⟩
    rw [Int.toNat_natCast]
    refine lc_range (fun j H' => Same H H' ∧ H' D = some (.lst (ve ((List.range j).map fun k => A.getD k 0 + B.getD k 0)))) ⟨newS hD, upd_same⟩ ?_ ?_
    · rintro j H' hj ⟨s', hD'⟩
      have ej : (0 : Int) + (j : Nat) = ((j : Nat) : Int) := by omega
      refine ⟨rfl, _, rfl, fa, dx, _, rfl, s' _ _ hf, fF_plus i m, _, rfl, _, rfl, i, l1, A, j, by rw [ej]; rfl, s'.seq hA, _, rfl, _, rfl, i, l2, B, j, by rw [ej]; rfl, s'.seq hB, ?_⟩
      refine ⟨fa, i, _, _, rfl, fieldS s' hF, fun H2 s2 => ⟨_, s2 _ _ hD', smallLt (by rw [ve_len, List.length_map, List.length_range]; omega), mutS (s'.trans s2) hD, ?_⟩⟩
      rw [upd_same, ve_snoc, List.range_succ, List.map_append]
      rfl
    · rintro H' ⟨s', hD'⟩
      exact ⟨i, D, _, rfl, SqL.of hD', fun H2 p s2 hp h2 => k _ _ (s'.trans s2) (s'.free hp) h2⟩
abbrev s_poly_subtract : Stmt := top 33
abbrev N_poly_subtract : List Str := ["field", "a", "b", "size", "k"]
theorem sc_poly_subtract : FnScope N_poly_subtract ["field", "a", "b"] (defScope s_poly_subtract) := ⟨rfl, rfl, rfl, by decide +kernel, rfl, by decide +kernel, by decide +kernel⟩
def sp_poly_subtract (K : PySem.W.Frag) (CF : Addr) : Sp := fun vs H Q _ => ∃ (fa l1 l2 : Addr) (i : Fin 8) (A B : List (GF i)), vs = [.ref fa, .ref l1, .ref l2] ∧ FieldAt K CF H fa i ∧ SqL K H l1 (ve A) ∧ SqL K H l2 (ve B) ∧ A.length ≤ 1000 ∧ B.length ≤ 1000 ∧ GL H Q (ve (psub A B))
theorem ok_poly_subtract {f : Addr} {fd' : FuncData} (F : Fun K "poly_subtract" "poly_subtract" s_poly_subtract f fd') (T : Txt K mg CF CE CI)
    (c1 : CalM P w K mg base CX0 CF "minus" ["self", "a", "b"] 4 (sp_minus K CF)) (c2 : Cal P w K mg base CX0 "coefficient" ["poly", "place"] 1 (sp_coefficient K)) (c3 : Cal P w K mg base CX0 "poly_trim" ["items"] 1 (sp_poly_trim K)) :
    FnOk P w K mg base CX0 5 f fd' ["field", "a", "b"] (sp_poly_subtract K CF) := by
  obtain ⟨f_Field_minus, _, ok_Field_minus, m_Field_minus, b_Field_minus⟩ := c1
  obtain ⟨f_coefficient, _, ok_coefficient, mg_coefficient, kp_coefficient, b_coefficient⟩ := c2
  obtain ⟨f_poly_trim, _, ok_poly_trim, mg_poly_trim, kp_poly_trim, b_poly_trim⟩ := c3
  refine F.ok sc_poly_subtract (fun vs H Q E h => ?_) (fun cdv A outer s H vs Q E hr h => ?_)
  · obtain ⟨fa, l1, l2, i, A, B, rfl, _⟩ := h; rfl
  · obtain ⟨fa, l1, l2, i, A, B, rfl, hF, hA, hB, la, lb, k⟩ := h
    have hF' := hF
    obtain ⟨dx, m, hf, hm⟩ := hF'
    refine ⟨_, (pss_cons (ps_set (i := 3) sc_poly_subtract.nd rfl (Or.inl rfl) (pe_callB (call_max2 rfl) (by rfl) T.n_max bt_max (pa_cons (pe_callB call_len_seq (by rfl) T.n_len bt_len (pa_cons (pv 1) pa_nil)) (pa_cons (pe_callB call_len_seq (by rfl) T.n_len bt_len (pa_cons (pv 2) pa_nil)) pa_nil))))
      (pss_one (ps_ret (pe_call ok_poly_trim (hr.mono (by decide)) (by rfl) mg_poly_trim kp_poly_trim b_poly_trim .nil pass0 (pa_cons (pe_lc (own := [("k", 4)]) rfl sc_poly_subtract.nd (pi_range1 (by rfl) T.n_range (pa_cons (pv 3) pa_nil)) (blkOk_by (own := [("k", 4)]) (N := N_poly_subtract) (sc := defScope s_poly_subtract) (by decide +kernel)) (fun _ _ _ _ _ => pg_name (i := 4) sc_poly_subtract.nd rfl (Or.inl rfl)) (fun _ _ _ _ _ => pts_nil) (fun _ _ _ _ _ => (pe_meth (pv 0) T.clF m_Field_minus ok_Field_minus (hr.mono (by decide)) b_Field_minus .nil pass0 (pa_cons (pe_call ok_coefficient (hr.mono (by decide)) (by rfl) mg_coefficient kp_coefficient b_coefficient .nil pass0 (pa_cons (pv 1) (pa_cons (pv 4) pa_nil))) (pa_cons (pe_call ok_coefficient (hr.mono (by decide)) (by rfl) mg_coefficient kp_coefficient b_coefficient .nil pass0 (pa_cons (pv 2) (pa_cons (pv 4) pa_nil))) pa_nil))))) pa_nil))))), ?_⟩
    refine ⟨_, rfl, l1, _, rfl, .inl hA, _, rfl, l2, _, rfl, .inl hB, _, _, rfl, ?_⟩
    rw [max_int, ve_len, ve_len]
    refine ⟨_, rfl, _, rfl, by omega, by omega, fun D hD => ?_⟩
    rw [Int.toNat_natCast]
    refine lc_range (fun j H' => Same H H' ∧ H' D = some (.lst (ve ((List.range j).map fun k => A.getD k 0 - B.getD k 0)))) ⟨newS hD, upd_same⟩ ?_ ?_
    · rintro j H' hj ⟨s', hD'⟩
      have ej : (0 : Int) + (j : Nat) = ((j : Nat) : Int) := by omega
      refine ⟨rfl, _, rfl, fa, dx, _, rfl, s' _ _ hf, fF_minus i m, _, rfl, _, rfl, i, l1, A, j, by rw [ej]; rfl, s'.seq hA, _, rfl, _, rfl, i, l2, B, j, by rw [ej]; rfl, s'.seq hB, ?_⟩
      refine ⟨fa, i, _, _, rfl, fieldS s' hF, fun H2 s2 => ⟨_, s2 _ _ hD', smallLt (by rw [ve_len, List.length_map, List.length_range]; omega), mutS (s'.trans s2) hD, ?_⟩⟩
      rw [upd_same, ve_snoc, List.range_succ, List.map_append]
      rfl
    · rintro H' ⟨s', hD'⟩
      exact ⟨i, D, _, rfl, SqL.of hD', fun H2 p s2 hp h2 => k _ _ (s'.trans s2) (s'.free hp) h2⟩

/-! ### poly_scale -/
abbrev s_poly_scale : Stmt := top 34
abbrev N_poly_scale : List Str := ["field", "poly", "factor", "item"]
theorem sc_poly_scale : FnScope N_poly_scale ["field", "poly", "factor"] (defScope s_poly_scale) := ⟨rfl, rfl, rfl, by decide +kernel, rfl, by decide +kernel, by decide +kernel⟩
def sp_poly_scale (K : PySem.W.Frag) (CF : Addr) : Sp := fun vs H Q _ => ∃ (fa l1 : Addr) (i : Fin 8) (A : List (GF i)) (c : GF i), vs = [.ref fa, .ref l1, .int c.enc] ∧ FieldAt K CF H fa i ∧ SqL K H l1 (ve A) ∧ A.length ≤ 1000 ∧ GL H Q (ve (pscale A c))
theorem ok_poly_scale {f : Addr} {fd' : FuncData} (F : Fun K "poly_scale" "poly_scale" s_poly_scale f fd') (T : Txt K mg CF CE CI)
    (c1 : CalM P w K mg base CX0 CF "times" ["self", "a", "b"] 3 (sp_times K CF)) (c3 : Cal P w K mg base CX0 "poly_trim" ["items"] 1 (sp_poly_trim K)) :
    FnOk P w K mg base CX0 4 f fd' ["field", "poly", "factor"] (sp_poly_scale K CF) := by
  obtain ⟨f_Field_times, _, ok_Field_times, m_Field_times, b_Field_times⟩ := c1
  obtain ⟨f_poly_trim, _, ok_poly_trim, mg_poly_trim, kp_poly_trim, b_poly_trim⟩ := c3
  refine F.ok sc_poly_scale (fun vs H Q E h => ?_) (fun cdv A outer s H vs Q E hr h => ?_)
  · obtain ⟨fa, l1, i, A, c, rfl, _⟩ := h; rfl
  · obtain ⟨fa, l1, i, A, c, rfl, hF, hA, la, k⟩ := h
    have hF' := hF
    obtain ⟨dx, m, hf, hm⟩ := hF'
    refine ⟨_, (pss_one (ps_ret (pe_call ok_poly_trim (hr.mono (by decide)) (by rfl) mg_poly_trim kp_poly_trim b_poly_trim .nil pass0 (pa_cons (pe_lc (own := [("item", 3)]) rfl sc_poly_scale.nd (pi_list (pv 1)) (blkOk_by (own := [("item", 3)]) (N := N_poly_scale) (sc := defScope s_poly_scale) (by decide +kernel)) (fun _ _ _ _ _ => pg_name (i := 3) sc_poly_scale.nd rfl (Or.inl rfl)) (fun _ _ _ _ _ => pts_nil) (fun _ _ _ _ _ => (pe_meth (pv 0) T.clF m_Field_times ok_Field_times (hr.mono (by decide)) b_Field_times .nil pass0 (pa_cons (pv 3) (pa_cons (pv 2) pa_nil))))) pa_nil)))), ?_⟩
    refine ⟨_, rfl, l1, rfl, ⟨_, hA⟩, fun D hD => ?_⟩
    refine lc_list (K := K) (a := l1) (xs := ve A) (fun j H' => Same H H' ∧ H' D = some (.lst (ve ((A.take j).map (· * c))))) ⟨newS hD, upd_same⟩ (fun j H' _ h => h.1.seq hA) ?_ ?_
    · rintro j x H' hx ⟨s', hD'⟩
      obtain ⟨a, ha, rfl⟩ := ve_get hx
      refine ⟨rfl, _, rfl, fa, dx, _, rfl, s' _ _ hf, fF_times i m, _, rfl, _, rfl, ?_⟩
      refine ⟨fa, i, _, _, rfl, fieldS s' hF, fun H2 s2 => ⟨_, s2 _ _ hD', smallLt (by rw [ve_len, List.length_map, List.length_take]; omega), mutS (s'.trans s2) hD, ?_⟩⟩
      rw [upd_same, ve_snoc, List.take_add_one, ha, List.map_append]
      rfl
    · rintro H' ⟨s', hD'⟩
      rw [ve_len, List.take_length] at hD'
      exact ⟨i, D, _, rfl, SqL.of hD', fun H2 p s2 hp h2 => k _ _ (s'.trans s2) (s'.free hp) h2⟩
end
end NW

set_option Elab.async false
set_option linter.all false
set_option maxRecDepth 100000
set_option maxHeartbeats 4000000
namespace NW
open PySem L2 GP
section
variable {P : Program} {w : World} {K : PySem.W.Frag} {mg : Str → Option Value} {base : Heap} {CF CE CI : Addr}

/-! ### poly_multiply -/
abbrev s_poly_multiply : Stmt := top 35
abbrev N_poly_multiply : List Str := ["field", "a", "b", "result", "i", "j"]
theorem sc_poly_multiply : FnScope N_poly_multiply ["field", "a", "b"] (defScope s_poly_multiply) := ⟨rfl, rfl, rfl, by decide +kernel, rfl, by decide +kernel, by decide +kernel⟩
def sp_poly_multiply (K : PySem.W.Frag) (CF : Addr) : Sp := fun vs H Q _ => ∃ (fa l1 l2 : Addr) (i : Fin 8) (A B : List (GF i)), vs = [.ref fa, .ref l1, .ref l2] ∧ FieldAt K CF H fa i ∧ SqL K H l1 (ve A) ∧ SqL K H l2 (ve B) ∧ A.length ≤ 1000 ∧ B.length ≤ 1000 ∧ GL H Q (ve (pmul A B))
theorem ok_poly_multiply {f : Addr} {fd' : FuncData} (F : Fun K "poly_multiply" "poly_multiply" s_poly_multiply f fd') (T : Txt K mg CF CE CI)
    (c1 : CalM P w K mg base CX0 CF "plus" ["self", "a", "b"] 3 (sp_plus K CF)) (c2 : CalM P w K mg base CX0 CF "times" ["self", "a", "b"] 3 (sp_times K CF)) (c3 : Cal P w K mg base CX0 "poly_trim" ["items"] 1 (sp_poly_trim K)) :
    FnOk P w K mg base CX0 4 f fd' ["field", "a", "b"] (sp_poly_multiply K CF) := by
  obtain ⟨f_Field_plus, _, ok_Field_plus, m_Field_plus, b_Field_plus⟩ := c1
  obtain ⟨f_Field_times, _, ok_Field_times, m_Field_times, b_Field_times⟩ := c2
  obtain ⟨f_poly_trim, _, ok_poly_trim, mg_poly_trim, kp_poly_trim, b_poly_trim⟩ := c3
  refine F.ok sc_poly_multiply (fun vs H Q E h => ?_) (fun cdv A outer s H vs Q E hr h => ?_)
  · obtain ⟨fa, l1, l2, i, A, B, rfl, _⟩ := h; rfl
  · obtain ⟨fa, l1, l2, i, A, B, rfl, hF, hA, hB, la, lb, k⟩ := h
    have hF' := hF
    obtain ⟨dx, m, hf, hm⟩ := hF'
    refine ⟨_, (pss_cons (ps_if (PW.pt (pw_or (pt_cmpR op_eq (pe_callB call_len_seq (by rfl) T.n_len bt_len (pa_cons (pv 1) pa_nil)) pe_int (nomark _)) (pw_or1 (pt_cmpR op_eq (pe_callB call_len_seq (by rfl) T.n_len bt_len (pa_cons (pv 2) pa_nil)) pe_int (nomark _))))) (pss_one (ps_ret (pe_lst pa_nil))) pss_nil)
      (pss_cons (ps_set (i := 3) sc_poly_multiply.nd rfl (Or.inl rfl) (pe_op op_rep (pe_lst (pa_cons pe_int pa_nil)) (pe_op op_sub (pe_op op_add (pe_callB call_len_seq (by rfl) T.n_len bt_len (pa_cons (pv 1) pa_nil)) (pe_callB call_len_seq (by rfl) T.n_len bt_len (pa_cons (pv 2) pa_nil))) pe_int)))
      (pss_cons (ps_for PassesOwn.never rfl (pi_range1 (by rfl) T.n_range (pa_cons (pe_callB call_len_seq (by rfl) T.n_len bt_len (pa_cons (pv 1) pa_nil)) pa_nil)) (pg_name (i := 4) sc_poly_multiply.nd rfl (Or.inl rfl)) (pss_one (ps_for PassesOwn.never rfl (pi_range1 (by rfl) T.n_range (pa_cons (pe_callB call_len_seq (by rfl) T.n_len bt_len (pa_cons (pv 2) pa_nil)) pa_nil)) (pg_name (i := 5) sc_poly_multiply.nd rfl (Or.inl rfl)) (pss_one (ps_asg (pe_meth (pv 0) T.clF m_Field_plus ok_Field_plus (hr.mono (by decide)) b_Field_plus .nil pass0 (pa_cons (pe_ix ix_list (pv 3) (pe_op op_add (pv 4) (pv 5)) (fun _ _ => rfl)) (pa_cons (pe_meth (pv 0) T.clF m_Field_times ok_Field_times (hr.mono (by decide)) b_Field_times .nil pass0 (pa_cons (pe_ix ix_list (pv 1) (pv 4) (fun _ _ => rfl)) (pa_cons (pe_ix ix_list (pv 2) (pv 5) (fun _ _ => rfl)) pa_nil))) pa_nil))) (pg_sub (pv 3) (pe_op op_add (pv 4) (pv 5)) set_list))))))
      (pss_one (ps_ret (pe_call ok_poly_trim (hr.mono (by decide)) (by rfl) mg_poly_trim kp_poly_trim b_poly_trim .nil pass0 (pa_cons (pv 3) pa_nil))))))), ?_⟩
    -- if len(a) == 0 or len(b) == 0: return []
    refine ⟨_, rfl, l1, _, rfl, .inl hA, rfl, _, rfl, ?_⟩
    have nilWay : (A.length = 0 ∨ B.length = 0) → ∀ (p : Addr), H p = none → Q (.ref p) (upd H p (.lst [])) := fun h p hp => by
      have e : pmul A B = [] := by unfold pmul; rw [if_pos h]
      rw [e] at k
      exact k _ _ (newS hp) hp upd_same
    by_cases h1 : A.length = 0
    · rw [decide_eq_true (show V.int ((ve A).length : Nat) = V.int 0 by rw [ve_len, h1]; rfl)]
      exact iteT (iteT ⟨Nat.zero_le _, fun p hp => nilWay (.inl h1) p hp⟩)
    rw [decide_eq_false (show ¬ V.int ((ve A).length : Nat) = V.int 0 by rw [ve_len]; intro z; injection z with z; omega)]
    refine iteF ⟨_, rfl, l2, _, rfl, .inl hB, rfl, _, rfl, ?_⟩
    by_cases h2 : B.length = 0
    · rw [decide_eq_true (show V.int ((ve B).length : Nat) = V.int 0 by rw [ve_len, h2]; rfl)]
      exact iteT ⟨Nat.zero_le _, fun p hp => nilWay (.inr h2) p hp⟩
    rw [decide_eq_false (show ¬ V.int ((ve B).length : Nat) = V.int 0 by rw [ve_len]; intro z; injection z with z; omega)]
    refine iteF ?_
    -- result = [0] * (len(a) + len(b) - 1)
    refine ⟨by show 1 ≤ sizeLine; decide, fun z hz => ?_⟩
    have s1 : Same H (upd H z (.lst [.int 0])) := newS hz
    refine ⟨_, rfl, l1, _, rfl, .inl (s1.seq hA), _, rfl, l2, _, rfl, .inl (s1.seq hB), _, _, rfl, rfl, _, _, rfl, rfl, z, _, _, rfl, rfl, upd_same, ?_, ?_, ?_, fun y hy => ?_⟩
    · rw [ve_len, ve_len]; omega
    · rw [ve_len, ve_len]; omega
    · rw [ve_len, ve_len]; exact small (by show 1 * _ ≤ _; omega)
    have en : (((ve A).length : Int) + ((ve B).length : Nat) - 1).toNat = A.length + B.length - 1 := by rw [ve_len, ve_len]; omega
    simp only [en, rep_vi]
    rw [ve_zeros (i := i)]
    generalize hH1 : upd H z (.lst [.int 0]) = H1 at *
    have s2 := s1.trans (newS (o := .lst (ve (List.replicate (A.length + B.length - 1) (0 : GF i)))) hy)
    refine ⟨_, rfl, l1, _, rfl, .inl (s2.seq hA), _, rfl, by omega, by rw [ve_len]; omega, ?_⟩
    rw [Int.toNat_natCast, ve_len]
    refine for_range (fun s σ H' => ∃ v1 v2, σ = [some (.ref fa), some (.ref l1), some (.ref l2), some (.ref y), v1, v2] ∧ Same H1 H' ∧ H' y = some (.lst (ve (mulOut A B s (List.replicate (A.length + B.length - 1) 0))))) ⟨none, none, rfl, newS hy, upd_same⟩ ?_ ?_
    · rintro s σ H' hs ⟨v1, v2, rfl, s3, hy3⟩
      generalize hR : mulOut A B s (List.replicate (A.length + B.length - 1) 0) = R at hy3
      have hRl : R.length = A.length + B.length - 1 := by rw [← hR, mulOut_length, List.length_replicate]
      refine ⟨_, rfl, l2, _, rfl, .inl ((s1.trans s3).seq hB), _, rfl, by omega, by rw [ve_len]; omega, ?_⟩
      rw [Int.toNat_natCast, ve_len]
      refine for_range (fun t σ H' => ∃ v2, σ = [some (.ref fa), some (.ref l1), some (.ref l2), some (.ref y), some (.int (s : Nat)), v2] ∧ Same H1 H' ∧ H' y = some (.lst (ve (mulIn A B s t R)))) ⟨v2, by simp [gName], s3, hy3⟩ ?_ ?_
      · rintro t σ H' ht ⟨v2, rfl, s4, hy4⟩
        have s04 := s1.trans s4
        have hl : s + t < (mulIn A B s t R).length := by rw [mulIn_length]; omega
        have ei : ((s : Nat) : Int) + (0 + (t : Nat)) = ((s + t : Nat) : Int) := by omega
        refine ⟨_, rfl, fa, dx, _, rfl, s04 _ _ hf, fF_plus i m, _, rfl, _, rfl, _, rfl, _, _, rfl, rfl, y, _, _, _, rfl, rfl, SqL.of hy4, at_of ei (ve_at hl),
          _, rfl, fa, dx, _, rfl, s04 _ _ hf, fF_times i m, _, rfl, _, rfl, l1, _, _, _, rfl, rfl, s04.seq hA, at_nat (ve_at (j := s) (by omega)), _, rfl, _, rfl, l2, _, _, _, rfl, rfl, s04.seq hB, at_of (by simp) (ve_at (j := t) (by omega)), ?_⟩
        refine ⟨fa, i, _, _, rfl, fieldS s04 hF, fun H5 s5 => ⟨fa, i, _, _, rfl, fieldS (s04.trans s5) hF, fun H6 s6 => ?_⟩⟩
        have s46 := s5.trans s6
        refine ⟨_, rfl, _, rfl, _, rfl, _, _, rfl, rfl, y, _, _, _, rfl, rfl, s46 _ _ hy4, ixN_of ei (by rw [ve_len]; exact hl), some (.int (0 + (t : Nat))), rfl, mutS (s4.trans s46) hy, ?_⟩
        rw [upd_same, ve_set]
        rfl
      · rintro σ H' ⟨v2, rfl, s4, hy4⟩
        refine ⟨_, _, rfl, s4, ?_⟩
        rw [hy4, ← hR]
        rfl
    · rintro σ H' ⟨v1, v2, rfl, s3, hy3⟩
      have e : pmul A B = trim (mulOut A B A.length (List.replicate (A.length + B.length - 1) 0)) := by unfold pmul; rw [if_neg (by omega)]
      rw [e] at k
      exact ⟨_, rfl, i, y, _, rfl, SqL.of hy3, fun H7 p s7 hp h7 => k _ _ ((s1.trans s3).trans s7) ((s1.trans s3).free hp) h7⟩

/-! ### poly_evaluate -/
abbrev s_poly_evaluate : Stmt := top 37
abbrev N_poly_evaluate : List Str := ["field", "poly", "point", "result", "item"]
theorem sc_poly_evaluate : FnScope N_poly_evaluate ["field", "poly", "point"] (defScope s_poly_evaluate) := ⟨rfl, rfl, rfl, by decide +kernel, rfl, by decide +kernel, by decide +kernel⟩
def sp_poly_evaluate (K : PySem.W.Frag) (CF : Addr) : Sp := fun vs H Q _ => ∃ (fa l1 : Addr) (i : Fin 8) (A : List (GF i)) (x : GF i), vs = [.ref fa, .ref l1, .int x.enc] ∧ FieldAt K CF H fa i ∧ SqL K H l1 (ve A) ∧ GV H Q (.int (ev A x).enc)
theorem ok_poly_evaluate {f : Addr} {fd' : FuncData} (F : Fun K "poly_evaluate" "poly_evaluate" s_poly_evaluate f fd') (T : Txt K mg CF CE CI)
    (c1 : CalM P w K mg base CX0 CF "plus" ["self", "a", "b"] 3 (sp_plus K CF)) (c2 : CalM P w K mg base CX0 CF "times" ["self", "a", "b"] 3 (sp_times K CF)) :
    FnOk P w K mg base CX0 4 f fd' ["field", "poly", "point"] (sp_poly_evaluate K CF) := by
  obtain ⟨f_Field_plus, _, ok_Field_plus, m_Field_plus, b_Field_plus⟩ := c1
  obtain ⟨f_Field_times, _, ok_Field_times, m_Field_times, b_Field_times⟩ := c2
  refine F.ok sc_poly_evaluate (fun vs H Q E h => ?_) (fun cdv A outer s H vs Q E hr h => ?_)
  · obtain ⟨fa, l1, i, A, x, rfl, _⟩ := h; rfl
  · obtain ⟨fa, l1, i, A, x, rfl, hF, hA, k⟩ := h
    have hF' := hF
    obtain ⟨dx, m, hf, hm⟩ := hF'
    refine ⟨_, (pss_cons (ps_set (i := 3) sc_poly_evaluate.nd rfl (Or.inl rfl) pe_int)
      (pss_cons (ps_for PassesOwn.never rfl (pi_reversed (by rfl) T.n_reversed (pa_cons (pv 1) pa_nil)) (pg_name (i := 4) sc_poly_evaluate.nd rfl (Or.inl rfl)) (pss_one (ps_set (i := 3) sc_poly_evaluate.nd rfl (Or.inl rfl) (pe_meth (pv 0) T.clF m_Field_plus ok_Field_plus (hr.mono (by decide)) b_Field_plus .nil pass0 (pa_cons (pe_meth (pv 0) T.clF m_Field_times ok_Field_times (hr.mono (by decide)) b_Field_times .nil pass0 (pa_cons (pv 3) (pa_cons (pv 2) pa_nil))) (pa_cons (pv 4) pa_nil))))))
      (pss_one (ps_ret (pv 3))))), ?_⟩
    refine ⟨_, rfl, l1, _, rfl, hA, RT.for_Itv (xs := ve A) (fun j σ H' => ∃ v, σ = [some (.ref fa), some (.ref l1), some (.int x.enc), some (.int (ev (A.drop (A.length - j)) x).enc), v] ∧ Same H H') ⟨none, ?_, Same.refl _⟩ (fun j σ H' ⟨_, _, s⟩ => s.seq hA) ?_ ?_⟩
    · rw [Nat.sub_zero, List.drop_length, ev_nil, GF.enc_zero]; rfl
    · rintro j y σ H' hj hx ⟨v, rfl, s1⟩
      obtain ⟨a, ha, rfl⟩ := ve_get hx
      rw [ve_len] at ha hj
      have hlt : A.length - (j + 1) < A.length := by omega
      have ez : A[A.length - (j + 1)] = a := by
        rw [show A.length - 1 - j = A.length - (j + 1) by omega, List.getElem?_eq_getElem hlt] at ha
        exact Option.some.inj ha
      have e : ev (A.drop (A.length - (j + 1))) x = ev (A.drop (A.length - j)) x * x + a := by
        rw [List.drop_eq_getElem_cons hlt, ev_cons, ez, show A.length - (j + 1) + 1 = A.length - j by omega]
      refine ⟨_, rfl, fa, dx, _, rfl, s1 _ _ hf, fF_plus i m, _, rfl, fa, dx, _, rfl, s1 _ _ hf, fF_times i m, _, rfl, _, rfl, fa, i, _, _, rfl, fieldS s1 hF, fun H2 s2 => ?_⟩
      refine ⟨_, rfl, fa, i, _, _, rfl, fieldS (s1.trans s2) hF, fun H3 s3 => ⟨some (.int a.enc), ?_, (s1.trans s2).trans s3⟩⟩
      rw [e]; rfl
    · rintro σ H' ⟨v, rfl, s1⟩
      refine ⟨_, rfl, ?_⟩
      rw [ve_len, Nat.sub_self, List.drop_zero]
      exact k _ s1

/-! ### poly_from_roots -/
abbrev s_poly_from_roots : Stmt := top 38
abbrev N_poly_from_roots : List Str := ["field", "roots", "result", "root"]
theorem sc_poly_from_roots : FnScope N_poly_from_roots ["field", "roots"] (defScope s_poly_from_roots) := ⟨rfl, rfl, rfl, by decide +kernel, rfl, by decide +kernel, by decide +kernel⟩
def sp_poly_from_roots (K : PySem.W.Frag) (CF : Addr) : Sp := fun vs H Q _ => ∃ (fa l1 : Addr) (i : Fin 8) (A : List (GF i)), vs = [.ref fa, .ref l1] ∧ FieldAt K CF H fa i ∧ SqL K H l1 (ve A) ∧ A.length ≤ 100 ∧ GL H Q (ve (froots A))
theorem ok_poly_from_roots {f : Addr} {fd' : FuncData} (F : Fun K "poly_from_roots" "poly_from_roots" s_poly_from_roots f fd') (T : Txt K mg CF CE CI)
    (c1 : CalM P w K mg base CX0 CF "negative" ["self", "a"] 3 (sp_negative K CF)) (c2 : Cal P w K mg base CX0 "poly_multiply" ["field", "a", "b"] 4 (sp_poly_multiply K CF)) :
    FnOk P w K mg base CX0 5 f fd' ["field", "roots"] (sp_poly_from_roots K CF) := by
  obtain ⟨f_Field_negative, _, ok_Field_negative, m_Field_negative, b_Field_negative⟩ := c1
  obtain ⟨f_poly_multiply, _, ok_poly_multiply, mg_poly_multiply, kp_poly_multiply, b_poly_multiply⟩ := c2
  refine F.ok sc_poly_from_roots (fun vs H Q E h => ?_) (fun cdv A outer s H vs Q E hr h => ?_)
  · obtain ⟨fa, l1, i, A, rfl, _⟩ := h; rfl
  · obtain ⟨fa, l1, i, A, rfl, hF, hA, la, k⟩ := h
    have hF' := hF
    obtain ⟨dx, m, hf, hm⟩ := hF'
    refine ⟨_, (pss_cons (ps_set (i := 2) sc_poly_from_roots.nd rfl (Or.inl rfl) (pe_lst (pa_cons pe_int pa_nil)))
      (pss_cons (ps_for PassesOwn.never rfl (pi_list (pv 1)) (pg_name (i := 3) sc_poly_from_roots.nd rfl (Or.inl rfl)) (pss_one (ps_set (i := 2) sc_poly_from_roots.nd rfl (Or.inl rfl) (pe_call ok_poly_multiply (hr.mono (by decide)) (by rfl) mg_poly_multiply kp_poly_multiply b_poly_multiply .nil pass0 (pa_cons (pv 0) (pa_cons (pv 2) (pa_cons (pe_lst (pa_cons (pe_meth (pv 0) T.clF m_Field_negative ok_Field_negative (hr.mono (by decide)) b_Field_negative .nil pass0 (pa_cons (pv 3) pa_nil)) (pa_cons pe_int pa_nil))) pa_nil)))))))
      (pss_one (ps_ret (pv 2))))), ?_⟩
    refine ⟨by show 1 ≤ sizeLine; decide, fun z hz => ?_⟩
    refine ⟨_, rfl, l1, rfl, ⟨_, (newS hz).seq hA⟩, for_list (K := K) (a := l1) (xs := ve A) (fun j σ H' => ∃ r v, σ = [some (.ref fa), some (.ref l1), some (.ref r), v] ∧ Same H H' ∧ H r = none ∧ H' r = some (.lst (ve (froots (A.take j))))) ⟨z, none, rfl, newS hz, hz, ?_⟩ (fun j σ H' _ ⟨_, _, _, s, _⟩ => s.seq hA) ?_ ?_⟩
    · rw [upd_same]
      show some (HO.lst [V.int 1]) = some (HO.lst [V.int (1 : GF i).enc])
      rw [GF.enc_one]
    · rintro j x σ H' hx ⟨r, v, rfl, s1, hr0, hr1⟩
      obtain ⟨a, ha, rfl⟩ := ve_get hx
      have hj : j < A.length := (List.getElem?_eq_some_iff.mp ha).1
      refine ⟨_, rfl, _, rfl, _, rfl, fa, dx, _, rfl, s1 _ _ hf, fF_negative i m, _, rfl, fa, i, a, rfl, fieldS s1 hF, fun H2 s2 => ?_⟩
      refine ⟨by show 2 ≤ sizeLine; decide, fun q hq => ?_⟩
      have s3 := (s1.trans s2).trans (newS (o := .lst [.int (-a).enc, .int 1]) hq)
      have e1 : ([V.int (-a).enc, V.int 1] : List V) = ve [-a, 1] := by
        show _ = [V.int (-a).enc, V.int (1 : GF i).enc]
        rw [GF.enc_one]
      refine ⟨fa, r, q, i, froots (A.take j), [-a, 1], rfl, fieldS s3 hF, SqL.of (newS hq _ _ (s2 _ _ hr1)), SqL.of (by rw [upd_same, e1]), ?_, by show 2 ≤ 1000; decide, fun H4 p s4 hp h4 => ⟨p, some (.int a.enc), rfl, s3.trans s4, s3.free hp, ?_⟩⟩
      · rw [(froots_inv (A.take j)).len, List.length_take]; omega
      · rw [h4, froots_take ha]
    · rintro σ H' ⟨r, v, rfl, s1, hr0, hr1⟩
      rw [ve_len, List.take_length] at hr1
      exact ⟨_, rfl, k _ _ s1 hr0 hr1⟩
end
end NW

set_option Elab.async false
set_option linter.all false
set_option maxRecDepth 100000
set_option maxHeartbeats 4000000
namespace NW
open PySem L2 GP
theorem max0_int (a b : Nat) : (if ((a : Int) - b + 1) > 0 then ((a : Int) - b + 1) else 0) = ((a + 1 - b : Nat) : Int) := by
  split <;> omega
theorem rowsN_short {i : Fin 8} {bound : Nat} : ∀ (n : Nat) {r : Row (GF i)}, r.top.length ≤ bound → rowsN bound n r = r
  | 0, _, _ => rfl
  | n + 1, r, h => if_neg (by omega)
section
variable {P : Program} {w : World} {K : PySem.W.Frag} {mg : Str → Option Value} {base : Heap} {CF CE CI : Addr}

/-! ### poly_divide -/
abbrev s_poly_divide : Stmt := top 36
abbrev N_poly_divide : List Str := ["field", "poly", "divisor", "lead", "rest", "quotient", "shift", "factor", "k"]
theorem sc_poly_divide : FnScope N_poly_divide ["field", "poly", "divisor"] (defScope s_poly_divide) := ⟨rfl, rfl, rfl, by decide +kernel, rfl, by decide +kernel, by decide +kernel⟩
def sp_poly_divide (K : PySem.W.Frag) (CF : Addr) : Sp := fun vs H Q _ => ∃ (fa l1 l2 : Addr) (i : Fin 8) (A B : List (GF i)), vs = [.ref fa, .ref l1, .ref l2] ∧ FieldAt K CF H fa i ∧ SqL K H l1 (ve A) ∧ SqL K H l2 (ve B) ∧ Tr B ∧ B ≠ [] ∧ A.length ≤ 1000 ∧ B.length ≤ 1000 ∧
  G2 H Q (ve (pdiv A B).1) (ve (pdiv A B).2)
theorem ok_poly_divide {f : Addr} {fd' : FuncData} (F : Fun K "poly_divide" "poly_divide" s_poly_divide f fd') (T : Txt K mg CF CE CI)
    (c1 : CalM P w K mg base CX0 CF "minus" ["self", "a", "b"] 4 (sp_minus K CF)) (c2 : CalM P w K mg base CX0 CF "times" ["self", "a", "b"] 3 (sp_times K CF)) (c4 : CalM P w K mg base CX0 CF "inverse" ["self", "a"] 4 (sp_inverse K CF)) (c3 : Cal P w K mg base CX0 "poly_trim" ["items"] 1 (sp_poly_trim K)) :
    FnOk P w K mg base CX0 5 f fd' ["field", "poly", "divisor"] (sp_poly_divide K CF) := by
  obtain ⟨f_Field_minus, _, ok_Field_minus, m_Field_minus, b_Field_minus⟩ := c1
  obtain ⟨f_Field_times, _, ok_Field_times, m_Field_times, b_Field_times⟩ := c2
  obtain ⟨f_Field_inverse, _, ok_Field_inverse, m_Field_inverse, b_Field_inverse⟩ := c4
  obtain ⟨f_poly_trim, _, ok_poly_trim, mg_poly_trim, kp_poly_trim, b_poly_trim⟩ := c3
  refine F.ok sc_poly_divide (fun vs H Q E h => ?_) (fun cdv A outer s H vs Q E hr h => ?_)
  · obtain ⟨fa, l1, l2, i, A, B, rfl, _⟩ := h; rfl
  · obtain ⟨fa, l1, l2, i, A, B, rfl, hF, hA, hB, tB, nB, la, lb, k⟩ := h
    have hF' := hF
    obtain ⟨dx, m, hf, hm⟩ := hF'
    have lb1 : 0 < B.length := List.length_pos_iff.mpr nB
    have hlast : B.getD (B.length - 1) 0 ≠ 0 := tr_last tB (by omega)
    refine ⟨_, (pss_cons (ps_if (pt_cmpR op_eq (pe_callB call_len_seq (by rfl) T.n_len bt_len (pa_cons (pv 2) pa_nil)) pe_int (nomark _)) (pss_one ps_never) pss_nil)
      (pss_cons (ps_set (i := 3) sc_poly_divide.nd rfl (Or.inl rfl) (pe_meth (pv 0) T.clF m_Field_inverse ok_Field_inverse (hr.mono (by decide)) b_Field_inverse .nil pass0 (pa_cons (pe_ix ix_list (pv 2) (pe_un un_neg pe_int) (fun _ _ => rfl)) pa_nil)))
      (pss_cons (ps_set (i := 4) sc_poly_divide.nd rfl (Or.inl rfl) (pe_callTy call_list_of (by rfl) T.n_list bt_list (pa_cons (pv 1) pa_nil)))
      (pss_cons (ps_set (i := 5) sc_poly_divide.nd rfl (Or.inl rfl) (pe_op op_rep (pe_lst (pa_cons pe_int pa_nil)) (pe_callB (call_max2 rfl) (by rfl) T.n_max bt_max (pa_cons pe_int (pa_cons (pe_op op_add (pe_op op_sub (pe_callB call_len_seq (by rfl) T.n_len bt_len (pa_cons (pv 1) pa_nil)) (pe_callB call_len_seq (by rfl) T.n_len bt_len (pa_cons (pv 2) pa_nil))) pe_int) pa_nil)))))
      (pss_cons (ps_for PassesOwn.never rfl (pi_range3 (by rfl) T.n_range (pa_cons (pe_op op_sub (pe_callB call_len_seq (by rfl) T.n_len bt_len (pa_cons (pv 1) pa_nil)) (pe_callB call_len_seq (by rfl) T.n_len bt_len (pa_cons (pv 2) pa_nil))) (pa_cons (pe_un un_neg pe_int) (pa_cons (pe_un un_neg pe_int) pa_nil)))) (pg_name (i := 6) sc_poly_divide.nd rfl (Or.inl rfl)) (pss_cons (ps_set (i := 7) sc_poly_divide.nd rfl (Or.inl rfl) (pe_meth (pv 0) T.clF m_Field_times ok_Field_times (hr.mono (by decide)) b_Field_times .nil pass0 (pa_cons (pe_ix ix_list (pv 4) (pe_op op_sub (pe_op op_add (pv 6) (pe_callB call_len_seq (by rfl) T.n_len bt_len (pa_cons (pv 2) pa_nil))) pe_int) (fun _ _ => rfl)) (pa_cons (pv 3) pa_nil))))
      (pss_cons (ps_asg (pv 7) (pg_sub (pv 5) (pv 6) set_list))
      (pss_one (ps_for PassesOwn.never rfl (pi_range1 (by rfl) T.n_range (pa_cons (pe_callB call_len_seq (by rfl) T.n_len bt_len (pa_cons (pv 2) pa_nil)) pa_nil)) (pg_name (i := 8) sc_poly_divide.nd rfl (Or.inl rfl)) (pss_one (ps_asg (pe_meth (pv 0) T.clF m_Field_minus ok_Field_minus (hr.mono (by decide)) b_Field_minus .nil pass0 (pa_cons (pe_ix ix_list (pv 4) (pe_op op_add (pv 6) (pv 8)) (fun _ _ => rfl)) (pa_cons (pe_meth (pv 0) T.clF m_Field_times ok_Field_times (hr.mono (by decide)) b_Field_times .nil pass0 (pa_cons (pv 7) (pa_cons (pe_ix ix_list (pv 2) (pv 8) (fun _ _ => rfl)) pa_nil))) pa_nil))) (pg_sub (pv 4) (pe_op op_add (pv 6) (pv 8)) set_list))))))))
      (pss_one (ps_ret (pe_tup (pa_cons (pe_call ok_poly_trim (hr.mono (by decide)) (by rfl) mg_poly_trim kp_poly_trim b_poly_trim .nil pass0 (pa_cons (pv 5) pa_nil)) (pa_cons (pe_call ok_poly_trim (hr.mono (by decide)) (by rfl) mg_poly_trim kp_poly_trim b_poly_trim .nil pass0 (pa_cons (pv 4) pa_nil)) pa_nil)))))))))), ?_⟩
    -- if len(divisor) == 0
    refine ⟨_, rfl, l2, _, rfl, .inl hB, rfl, _, rfl, ?_⟩
    rw [decide_eq_false (show ¬ V.int ((ve B).length : Nat) = V.int 0 by rw [ve_len]; intro z; injection z with z; omega)]
    refine iteF ?_
    -- lead = field.inverse(divisor[-1])
    refine ⟨_, rfl, fa, dx, _, rfl, hf, fF_inverse i m, _, rfl, _, rfl, l2, _, _, _, rfl, rfl, hB, at_neg1 (by rw [ve_len]; exact ve_at (j := B.length - 1) (by omega)), fa, i, _, rfl, hF, hlast, fun H1 s1 => ?_⟩
    generalize hlead : (B.getD (B.length - 1) 0)⁻¹ = lead
    -- rest = list(poly); quotient = [0] * max(0, ..)
    refine ⟨_, rfl, l1, _, rfl, .inl (s1.seq hA), fun rr hrr => ?_⟩
    refine ⟨by show 1 ≤ sizeLine; decide, fun z hz => ?_⟩
    have s2 : Same H1 (upd (upd H1 rr (.lst (ve A))) z (.lst [.int 0])) := (newS hrr).trans (newS hz)
    have s12 := s1.trans s2
    refine ⟨_, rfl, l1, _, rfl, .inl (s12.seq hA), _, rfl, l2, _, rfl, .inl (s12.seq hB), _, _, rfl, rfl, _, _, rfl, rfl, _, _, rfl, ?_⟩
    rw [ve_len, ve_len]
    simp only [max0_int]
    refine ⟨z, _, _, rfl, rfl, upd_same, by omega, by omega, small (by show 1 * _ ≤ _; rw [Int.toNat_natCast]; omega), fun qq hqq => ?_⟩
    rw [Int.toNat_natCast, rep_vi, ve_zeros (i := i)]
    have hrr2 : upd (upd H1 rr (.lst (ve A))) z (.lst [.int 0]) rr = some (.lst (ve A)) := newS hz _ _ upd_same
    generalize hH2 : upd (upd H1 rr (.lst (ve A))) z (.lst [.int 0]) = H2 at *
    have nqr : qq ≠ rr := (ne_of_none hrr2 hqq).symm
    have hrr0 : H1 rr = none := hrr
    have hqq0 : H1 qq = none := s2.free hqq
    have s3 : Same H1 (upd H2 qq (.lst (ve (List.replicate (A.length + 1 - B.length) (0 : GF i))))) := s2.trans (newS hqq)
    have s13 := s1.trans s3
    -- for shift in range(..)
    refine ⟨_, rfl, l1, _, rfl, .inl (s13.seq hA), _, rfl, l2, _, rfl, .inl (s13.seq hB), _, _, rfl, rfl, _, rfl, _, rfl, _, _, _, _, rfl, RgC.neg (by rw [ve_len, ve_len]; omega) (by rw [ve_len, ve_len]; omega) (by decide) (by decide), ?_⟩
    have en : ((((ve A).length : Int) - ((ve B).length : Nat)) - -1).toNat = A.length + 1 - B.length := by rw [ve_len, ve_len]; omega
    rw [en]
    have inv := fun t => divLoop_inv (a := A) tB nB t
    rw [hlead] at inv
    refine for_rangeC (fun t σ H' => ∃ v1 v2 v3, σ = [some (.ref fa), some (.ref l1), some (.ref l2), some (.int lead.enc), some (.ref rr), some (.ref qq), v1, v2, v3] ∧ Same H1 H' ∧ H' rr = some (.lst (ve (divLoop A B lead t).2)) ∧ H' qq = some (.lst (ve (divLoop A B lead t).1)))
      ⟨none, none, none, rfl, s3, by rw [upd_ne nqr.symm]; exact hrr2, upd_same⟩ ?_ ?_
    · rintro t σ H3 ht ⟨v1, v2, v3, rfl, s3, hr3, hq3⟩
      obtain ⟨ql, rl, _, _, _, _, _⟩ := inv t (by omega)
      have s13 := s1.trans s3
      have hS : ((ve A).length : Int) - ((ve B).length : Nat) + (t : Nat) * -1 = ((A.length - B.length - t : Nat) : Int) := by rw [ve_len, ve_len]; omega
      rw [hS]
      have hL : divLoop A B lead (t + 1) = divTurn B lead (A.length - B.length) t (divLoop A B lead t) := rfl
      rw [hL]
      unfold divTurn
      generalize hst : A.length - B.length - t = S
      generalize hLt : divLoop A B lead t = L at hr3 hq3 ql rl
      have e1 : ((S : Nat) : Int) + ((ve B).length : Nat) - 1 = ((S + B.length - 1 : Nat) : Int) := by rw [ve_len]; omega
      -- factor = field.times(rest[..], lead)
      refine ⟨_, rfl, fa, dx, _, rfl, s13 _ _ hf, fF_times i m, _, rfl, _, rfl, _, rfl, l2, _, rfl, .inl (s13.seq hB), _, _, rfl, rfl, _, _, rfl, rfl, rr, _, _, _, rfl, rfl, SqL.of hr3, at_of e1 (ve_at (j := S + B.length - 1) (by omega)), _, rfl, fa, i, _, _, rfl, fieldS s13 hF, fun H4 s4 => ?_⟩
      generalize hfac : L.2.getD (S + B.length - 1) 0 * lead = fac
      -- quotient[shift] = factor
      refine ⟨_, rfl, _, rfl, _, rfl, qq, _, _, S, rfl, rfl, s4 _ _ hq3, ixN_nat (by rw [ve_len]; omega), ?_⟩
      rw [ve_set]
      have hr4 : upd H4 qq (.lst (ve (L.1.set S fac))) rr = some (.lst (ve L.2)) := by rw [upd_ne nqr.symm]; exact s4 _ _ hr3
      have s5 : Same H1 (upd H4 qq (.lst (ve (L.1.set S fac)))) := mutS (s3.trans s4) hqq0
      -- for k in range(len(divisor))
      refine ⟨_, rfl, l2, _, rfl, .inl ((s1.trans s5).seq hB), _, rfl, by omega, by rw [ve_len]; omega, ?_⟩
      rw [Int.toNat_natCast, ve_len]
      refine for_range (fun u σ H' => ∃ v3, σ = [some (.ref fa), some (.ref l1), some (.ref l2), some (.int lead.enc), some (.ref rr), some (.ref qq), some (.int (S : Nat)), some (.int fac.enc), v3] ∧ Same H1 H' ∧ H' rr = some (.lst (ve (divIn B fac S u L.2))) ∧ H' qq = some (.lst (ve (L.1.set S fac))))
        ⟨v3, rfl, s5, hr4, upd_same⟩ ?_ ?_
      · rintro u σ H6 hu ⟨v3, rfl, s6, hr6, hq6⟩
        have s16 := s1.trans s6
        have hl : S + u < (divIn B fac S u L.2).length := by rw [divIn_length]; omega
        have ei : ((S : Nat) : Int) + (0 + (u : Nat)) = ((S + u : Nat) : Int) := by omega
        refine ⟨_, rfl, fa, dx, _, rfl, s16 _ _ hf, fF_minus i m, _, rfl, _, rfl, _, rfl, _, _, rfl, rfl, rr, _, _, _, rfl, rfl, SqL.of hr6, at_of ei (ve_at hl),
          _, rfl, fa, dx, _, rfl, s16 _ _ hf, fF_times i m, _, rfl, _, rfl, _, rfl, l2, _, _, _, rfl, rfl, s16.seq hB, at_of (by simp) (ve_at (j := u) hu), ?_⟩
        refine ⟨fa, i, _, _, rfl, fieldS s16 hF, fun H7 s7 => ⟨fa, i, _, _, rfl, fieldS (s16.trans s7) hF, fun H8 s8 => ?_⟩⟩
        have s78 := s7.trans s8
        refine ⟨_, rfl, _, rfl, _, rfl, _, _, rfl, rfl, rr, _, _, _, rfl, rfl, s78 _ _ hr6, ixN_of ei (by rw [ve_len]; exact hl), some (.int (0 + (u : Nat))), rfl, mutS (s6.trans s78) hrr0, ?_, ?_⟩
        · rw [upd_same, ve_set]
          rfl
        · rw [upd_ne nqr]
          exact s78 _ _ hq6
      · rintro σ H6 ⟨v3, rfl, s6, hr6, hq6⟩
        exact ⟨_, _, _, rfl, s6, hr6, hq6⟩
    · rintro σ H3 ⟨v1, v2, v3, rfl, s3, hr3, hq3⟩
      unfold pdiv at k
      rw [hlead] at k
      refine ⟨_, rfl, i, qq, _, rfl, SqL.of hq3, fun H4 p4 s4 n4 h4 => ?_⟩
      refine ⟨_, rfl, i, rr, _, rfl, SqL.of (s4 _ _ hr3), fun H5 p5 s5 n5 h5 => ?_⟩
      refine ⟨by show 2 ≤ sizeLine; decide, fun p hp => ?_⟩
      have u := newS (o := .tup [.ref p4, .ref p5]) hp
      exact k _ p p4 p5 (((s1.trans s3).trans (s4.trans s5)).trans u) upd_same (u _ _ (s5 _ _ h4)) (u _ _ h5)

/-! ### interpolate -/
abbrev s_interpolate : Stmt := top 39
abbrev N_interpolate : List Str := ["field", "points", "values", "result", "product", "k", "part", "factor"]
theorem sc_interpolate : FnScope N_interpolate ["field", "points", "values"] (defScope s_interpolate) := ⟨rfl, rfl, rfl, by decide +kernel, rfl, by decide +kernel, by decide +kernel⟩
def sp_interpolate (K : PySem.W.Frag) (CF : Addr) : Sp := fun vs H Q _ => ∃ (fa l1 l2 : Addr) (i : Fin 8) (A B : List (GF i)), vs = [.ref fa, .ref l1, .ref l2] ∧ FieldAt K CF H fa i ∧ SqL K H l1 (ve A) ∧ SqL K H l2 (ve B) ∧ A.Nodup ∧ A.length = B.length ∧ A.length ≤ 100 ∧
  GL H Q (ve (interp A B))
theorem enc_nodup {i : Fin 8} {A : List (GF i)} (h : A.Nodup) : (A.map GF.enc).Nodup := by
  induction A with
  | nil => exact List.nodup_nil
  | cons a A ih =>
    rw [List.nodup_cons] at h
    rw [List.map_cons, List.nodup_cons]
    refine ⟨fun hm => ?_, ih h.2⟩
    obtain ⟨b, hb, e⟩ := List.mem_map.mp hm
    rw [GF.enc_inj e] at hb
    exact h.1 hb
theorem ok_interpolate {f : Addr} {fd' : FuncData} (F : Fun K "interpolate" "interpolate" s_interpolate f fd') (T : Txt K mg CF CE CI)
    (c1 : CalM P w K mg base CX0 CF "negative" ["self", "a"] 3 (sp_negative K CF)) (c2 : CalM P w K mg base CX0 CF "over" ["self", "a", "b"] 5 (sp_over K CF))
    (c3 : Cal P w K mg base CX0 "poly_from_roots" ["field", "roots"] 5 (sp_poly_from_roots K CF)) (c4 : Cal P w K mg base CX0 "poly_divide" ["field", "poly", "divisor"] 5 (sp_poly_divide K CF))
    (c5 : Cal P w K mg base CX0 "poly_evaluate" ["field", "poly", "point"] 4 (sp_poly_evaluate K CF)) (c6 : Cal P w K mg base CX0 "poly_add" ["field", "a", "b"] 4 (sp_poly_add K CF)) (c7 : Cal P w K mg base CX0 "poly_scale" ["field", "poly", "factor"] 4 (sp_poly_scale K CF)) :
    FnOk P w K mg base CX0 6 f fd' ["field", "points", "values"] (sp_interpolate K CF) := by
  obtain ⟨f_Field_negative, _, ok_Field_negative, m_Field_negative, b_Field_negative⟩ := c1
  obtain ⟨f_Field_over, _, ok_Field_over, m_Field_over, b_Field_over⟩ := c2
  obtain ⟨f_poly_from_roots, _, ok_poly_from_roots, mg_poly_from_roots, kp_poly_from_roots, b_poly_from_roots⟩ := c3
  obtain ⟨f_poly_divide, _, ok_poly_divide, mg_poly_divide, kp_poly_divide, b_poly_divide⟩ := c4
  obtain ⟨f_poly_evaluate, _, ok_poly_evaluate, mg_poly_evaluate, kp_poly_evaluate, b_poly_evaluate⟩ := c5
  obtain ⟨f_poly_add, _, ok_poly_add, mg_poly_add, kp_poly_add, b_poly_add⟩ := c6
  obtain ⟨f_poly_scale, _, ok_poly_scale, mg_poly_scale, kp_poly_scale, b_poly_scale⟩ := c7
  refine F.ok sc_interpolate (fun vs H Q E h => ?_) (fun cdv A outer s H vs Q E hr h => ?_)
  · obtain ⟨fa, l1, l2, i, A, B, rfl, _⟩ := h; rfl
  · obtain ⟨fa, l1, l2, i, A, B, rfl, hF, hA, hB, nd, hl, la, k⟩ := h
    have hF' := hF
    obtain ⟨dx, m, hf, hm⟩ := hF'
    obtain ⟨frt, frl, _⟩ := froots_inv A
    refine ⟨_, (pss_cons (ps_if (PW.pt (pw_or (pt_cmpR op_ne (pe_callB call_len_seq (by rfl) T.n_len bt_len (pa_cons (pv 1) pa_nil)) (pe_callB call_len_seq (by rfl) T.n_len bt_len (pa_cons (pv 2) pa_nil)) (nomark _)) (pw_or1 (pt_cmpR op_ne (RZ.pe_lenSetI (by rfl) T.n_len (by rfl) T.n_set (pv 1)) (pe_callB call_len_seq (by rfl) T.n_len bt_len (pa_cons (pv 1) pa_nil)) (nomark _))))) (pss_one ps_never) pss_nil)
      (pss_cons (ps_set (i := 3) sc_interpolate.nd rfl (Or.inl rfl) (pe_lst pa_nil))
      (pss_cons (ps_set (i := 4) sc_interpolate.nd rfl (Or.inl rfl) (pe_call ok_poly_from_roots (hr.mono (by decide)) (by rfl) mg_poly_from_roots kp_poly_from_roots b_poly_from_roots .nil pass0 (pa_cons (pv 0) (pa_cons (pv 1) pa_nil))))
      (pss_cons (ps_for PassesOwn.never rfl (pi_range1 (by rfl) T.n_range (pa_cons (pe_callB call_len_seq (by rfl) T.n_len bt_len (pa_cons (pv 1) pa_nil)) pa_nil)) (pg_name (i := 5) sc_interpolate.nd rfl (Or.inl rfl)) (pss_cons (ps_set (i := 6) sc_interpolate.nd rfl (Or.inl rfl) (pe_ix ix_tup (pe_call ok_poly_divide (hr.mono (by decide)) (by rfl) mg_poly_divide kp_poly_divide b_poly_divide .nil pass0 (pa_cons (pv 0) (pa_cons (pv 4) (pa_cons (pe_lst (pa_cons (pe_meth (pv 0) T.clF m_Field_negative ok_Field_negative (hr.mono (by decide)) b_Field_negative .nil pass0 (pa_cons (pe_ix ix_list (pv 1) (pv 5) (fun _ _ => rfl)) pa_nil)) (pa_cons pe_int pa_nil))) pa_nil)))) pe_int (fun _ _ => rfl)))
      (pss_cons (ps_set (i := 7) sc_interpolate.nd rfl (Or.inl rfl) (pe_meth (pv 0) T.clF m_Field_over ok_Field_over (hr.mono (by decide)) b_Field_over .nil pass0 (pa_cons (pe_ix ix_list (pv 2) (pv 5) (fun _ _ => rfl)) (pa_cons (pe_call ok_poly_evaluate (hr.mono (by decide)) (by rfl) mg_poly_evaluate kp_poly_evaluate b_poly_evaluate .nil pass0 (pa_cons (pv 0) (pa_cons (pv 6) (pa_cons (pe_ix ix_list (pv 1) (pv 5) (fun _ _ => rfl)) pa_nil)))) pa_nil))))
      (pss_one (ps_set (i := 3) sc_interpolate.nd rfl (Or.inl rfl) (pe_call ok_poly_add (hr.mono (by decide)) (by rfl) mg_poly_add kp_poly_add b_poly_add .nil pass0 (pa_cons (pv 0) (pa_cons (pv 3) (pa_cons (pe_call ok_poly_scale (hr.mono (by decide)) (by rfl) mg_poly_scale kp_poly_scale b_poly_scale .nil pass0 (pa_cons (pv 0) (pa_cons (pv 6) (pa_cons (pv 7) pa_nil)))) pa_nil)))))))))
      (pss_one (ps_ret (pv 3))))))), ?_⟩
    refine ⟨_, rfl, l1, _, rfl, .inl hA, _, rfl, l2, _, rfl, .inl hB, rfl, _, rfl, ?_⟩
    refine iteNS (show V.int ((ve A).length : Nat) = V.int ((ve B).length : Nat) by rw [ve_len, ve_len, hl]) ?_
    refine ⟨_, rfl, l1, A.map GF.enc, rfl, hA, enc_nodup nd, by rw [List.length_map]; omega, _, rfl, l1, _, rfl, .inl hA, rfl, _, rfl, ?_⟩
    refine iteNS (show V.int ((A.map GF.enc).length : Nat) = V.int ((ve A).length : Nat) by rw [ve_len, List.length_map]) ?_
    -- result = []; product = poly_from_roots(field, points)
    refine ⟨Nat.zero_le _, fun z hz => ?_⟩
    have s0 := newS (o := .lst []) hz
    refine ⟨_, rfl, _, rfl, fa, l1, i, A, rfl, fieldS s0 hF, s0.seq hA, la, fun H1 pr s1 np h1 => ?_⟩
    have s01 := s0.trans s1
    refine ⟨_, rfl, l1, _, rfl, .inl (s01.seq hA), _, rfl, by omega, by rw [ve_len]; omega, ?_⟩
    rw [Int.toNat_natCast, ve_len]
    refine for_range (fun t σ H' => ∃ r v1 v2 v3, σ = [some (.ref fa), some (.ref l1), some (.ref l2), some (.ref r), some (.ref pr), v1, v2, v3] ∧ Same H1 H' ∧ H r = none ∧ H' r = some (.lst (ve (loopN (interpTurn A B) t [])))) ⟨z, none, none, none, rfl, Same.refl _, hz, s1 _ _ upd_same⟩ ?_ ?_
    · rintro t σ H2 ht ⟨r, v1, v2, v3, rfl, s2, hr0, hr2⟩
      have s02 := s01.trans s2
      obtain ⟨p1, p2, p3⟩ := part_facts nd ht
      have ej : (0 : Int) + (t : Nat) = ((t : Nat) : Int) := by omega
      -- part = poly_divide(field, product, [field.negative(points[k]), 1])[0]
      refine ⟨_, rfl, _, rfl, _, rfl, fa, dx, _, rfl, s02 _ _ hf, fF_negative i m, _, rfl, _, rfl, l1, _, _, _, rfl, rfl, s02.seq hA, at_of ej (ve_at ht), fa, i, _, rfl, fieldS s02 hF, fun H3 s3 => ?_⟩
      refine ⟨by show 2 ≤ sizeLine; decide, fun q hq => ?_⟩
      have s03 := (s02.trans s3).trans (newS (o := .lst [.int (-(A.getD t 0)).enc, .int 1]) hq)
      have e1 : ([V.int (-(A.getD t 0)).enc, V.int 1] : List V) = ve [-(A.getD t 0), 1] := by
        show _ = [V.int (-(A.getD t 0)).enc, V.int (1 : GF i).enc]
        rw [GF.enc_one]
      refine ⟨fa, pr, q, i, froots A, [-(A.getD t 0), 1], rfl, fieldS s03 hF, SqL.of (newS hq _ _ (s3 _ _ (s2 _ _ h1))), SqL.of (by rw [upd_same, e1]), tr_lin _, by simp, by omega, by show 2 ≤ 1000; decide, fun H4 p4 a4 b4 s4 h4 ha4 hb4 => ?_⟩
      have s04 := s03.trans s4
      refine ⟨p4, _, _, _, rfl, rfl, SqT.of h4, at_nat (j := 0) rfl, ?_⟩
      -- factor = field.over(values[k], poly_evaluate(field, part, points[k]))
      refine ⟨_, rfl, fa, dx, _, rfl, s04 _ _ hf, fF_over i m, _, rfl, _, rfl, l2, _, _, _, rfl, rfl, s04.seq hB, at_of ej (ve_at (by omega)), _, rfl, _, rfl, _, rfl, _, rfl, l1, _, _, _, rfl, rfl, s04.seq hA, at_of ej (ve_at ht),
        fa, a4, i, _, _, rfl, fieldS s04 hF, SqL.of ha4, fun H5 s5 => ?_⟩
      have s05 := s04.trans s5
      refine ⟨fa, i, _, _, rfl, fieldS s05 hF, p3, fun H6 s6 => ?_⟩
      have s06 := s05.trans s6
      -- result = poly_add(field, result, poly_scale(field, part, factor))
      have hr6 := s6 _ _ (s5 _ _ (s4 _ _ (newS (o := .lst [.int (-(A.getD t 0)).enc, .int 1]) hq _ _ (s3 _ _ hr2))))
      have ha6 := s6 _ _ (s5 _ _ ha4)
      refine ⟨_, rfl, _, rfl, _, rfl, _, rfl, _, rfl, fa, a4, i, _, _, rfl, fieldS s06 hF, SqL.of ha6, by have := p1; unfold part at this; omega, fun H7 p7 s7 n7 h7 => ?_⟩
      have hle : ∀ n, n ≤ A.length → (loopN (interpTurn A B) n []).length ≤ A.length := fun n => by
        induction n with
        | zero => intro _; exact Nat.zero_le _
        | succ n ih =>
          intro hn
          refine Nat.le_trans (padd_length _ _) (Nat.max_le.mpr ⟨ih (by omega), Nat.le_trans (pscale_length _ _) (Nat.le_of_eq (part_facts nd (k := n) (by omega)).1)⟩)
      refine ⟨fa, r, p7, i, _, _, rfl, fieldS (s06.trans s7) hF, SqL.of (s7 _ _ hr6), SqL.of h7, by have := hle t (by omega); omega, ?_, fun H8 p8 s8 n8 h8 => ⟨p8, _, _, _, rfl, ?_, (s06.trans s7).free n8, h8⟩⟩
      · refine Nat.le_trans (pscale_length _ _) ?_
        have := p1
        unfold part at this
        omega
      · exact ((((((s2.trans s3).trans (newS (o := .lst [.int (-(A.getD t 0)).enc, .int 1]) hq)).trans s4).trans s5).trans s6).trans s7).trans s8
    · rintro σ H2 ⟨r, v1, v2, v3, rfl, s2, hr0, hr2⟩
      exact ⟨_, rfl, k _ _ (s01.trans s2) hr0 hr2⟩

/-! ### key_equation -/
abbrev s_key_equation : Stmt := top 41
abbrev N_key_equation : List Str := ["field", "modulus", "value", "bound", "before", "top", "before_bottom", "bottom", "quotient", "rest", "lower", "factor"]
theorem sc_key_equation : FnScope N_key_equation ["field", "modulus", "value", "bound"] (defScope s_key_equation) := ⟨rfl, rfl, rfl, by decide +kernel, rfl, by decide +kernel, by decide +kernel⟩
def sp_key_equation (K : PySem.W.Frag) (CF : Addr) : Sp := fun vs H Q _ => ∃ (fa l1 l2 : Addr) (i : Fin 8) (M A xs ys : List (GF i)) (bound : Nat), vs = [.ref fa, .ref l1, .ref l2, .int bound] ∧ FieldAt K CF H fa i ∧ SqL K H l1 (ve M) ∧ SqL K H l2 (ve A) ∧ xs.length ≤ 100 ∧
  RowInv xs ys bound ⟨M, A, [], [1]⟩ ∧ G2 H Q (ve (keyTop M A bound)) (ve (keyBottom M A bound))
theorem ok_key_equation {f : Addr} {fd' : FuncData} (F : Fun K "key_equation" "key_equation" s_key_equation f fd') (T : Txt K mg CF CE CI)
    (c1 : CalM P w K mg base CX0 CF "inverse" ["self", "a"] 4 (sp_inverse K CF)) (c2 : Cal P w K mg base CX0 "degree_of" ["poly"] 1 (sp_degree_of K)) (c4 : Cal P w K mg base CX0 "poly_divide" ["field", "poly", "divisor"] 5 (sp_poly_divide K CF))
    (c5 : Cal P w K mg base CX0 "poly_subtract" ["field", "a", "b"] 5 (sp_poly_subtract K CF)) (c6 : Cal P w K mg base CX0 "poly_multiply" ["field", "a", "b"] 4 (sp_poly_multiply K CF)) (c7 : Cal P w K mg base CX0 "poly_scale" ["field", "poly", "factor"] 4 (sp_poly_scale K CF)) :
    FnOk P w K mg base CX0 6 f fd' ["field", "modulus", "value", "bound"] (sp_key_equation K CF) := by
  obtain ⟨f_Field_inverse, _, ok_Field_inverse, m_Field_inverse, b_Field_inverse⟩ := c1
  obtain ⟨f_degree_of, _, ok_degree_of, mg_degree_of, kp_degree_of, b_degree_of⟩ := c2
  obtain ⟨f_poly_divide, _, ok_poly_divide, mg_poly_divide, kp_poly_divide, b_poly_divide⟩ := c4
  obtain ⟨f_poly_subtract, _, ok_poly_subtract, mg_poly_subtract, kp_poly_subtract, b_poly_subtract⟩ := c5
  obtain ⟨f_poly_multiply, _, ok_poly_multiply, mg_poly_multiply, kp_poly_multiply, b_poly_multiply⟩ := c6
  obtain ⟨f_poly_scale, _, ok_poly_scale, mg_poly_scale, kp_poly_scale, b_poly_scale⟩ := c7
  refine F.ok sc_key_equation (fun vs H Q E h => ?_) (fun cdv A outer s H vs Q E hr h => ?_)
  · obtain ⟨fa, l1, l2, i, M, A, xs, ys, bound, rfl, _⟩ := h; rfl
  · obtain ⟨fa, l1, l2, i, M, A, xs, ys, bound, rfl, hF, hM, hA, lx, R0, k⟩ := h
    have hF' := hF
    obtain ⟨dx, m, hf, hm⟩ := hF'
    have hM0 : bound < M.length := R0.big
    refine ⟨_, (pss_cons (ps_if (pt_cmpR op_eq (pe_callB call_len_seq (by rfl) T.n_len bt_len (pa_cons (pv 1) pa_nil)) pe_int (nomark _)) (pss_one ps_never) pss_nil)
      (pss_cons (ps_par (i := 4) (j := 5) (by rfl) sc_key_equation.nd rfl rfl (by decide) rfl rfl (pa_cons (pv 1) (pa_cons (pv 2) pa_nil)) (by rfl))
      (pss_cons (ps_par (i := 6) (j := 7) (by rfl) sc_key_equation.nd rfl rfl (by decide) rfl rfl (pa_cons (pe_lst pa_nil) (pa_cons (pe_lst (pa_cons pe_int pa_nil)) pa_nil)) (by rfl))
      (pss_cons (ps_while PassesOwn.never (pt_cmpR op_ge (pe_call ok_degree_of (hr.mono (by decide)) (by rfl) mg_degree_of kp_degree_of b_degree_of .nil pass0 (pa_cons (pv 5) pa_nil)) (pv 3) (nomark _)) (pss_cons (ps_asg (pe_call ok_poly_divide (hr.mono (by decide)) (by rfl) mg_poly_divide kp_poly_divide b_poly_divide .nil pass0 (pa_cons (pv 0) (pa_cons (pv 4) (pa_cons (pv 5) pa_nil)))) (pg_tup (by rfl) (pgs_cons (pg_name (i := 8) sc_key_equation.nd rfl (Or.inl rfl)) (pgs_cons (pg_name (i := 9) sc_key_equation.nd rfl (Or.inl rfl)) pgs_nil))))
      (pss_cons (ps_set (i := 10) sc_key_equation.nd rfl (Or.inl rfl) (pe_call ok_poly_subtract (hr.mono (by decide)) (by rfl) mg_poly_subtract kp_poly_subtract b_poly_subtract .nil pass0 (pa_cons (pv 0) (pa_cons (pv 6) (pa_cons (pe_call ok_poly_multiply (hr.mono (by decide)) (by rfl) mg_poly_multiply kp_poly_multiply b_poly_multiply .nil pass0 (pa_cons (pv 0) (pa_cons (pv 8) (pa_cons (pv 7) pa_nil)))) pa_nil)))))
      (pss_cons (ps_par (i := 4) (j := 5) (by rfl) sc_key_equation.nd rfl rfl (by decide) rfl rfl (pa_cons (pv 5) (pa_cons (pv 9) pa_nil)) (by rfl))
      (pss_one (ps_par (i := 6) (j := 7) (by rfl) sc_key_equation.nd rfl rfl (by decide) rfl rfl (pa_cons (pv 7) (pa_cons (pv 10) pa_nil)) (by rfl)))))))
      (pss_cons (ps_set (i := 11) sc_key_equation.nd rfl (Or.inl rfl) (pe_meth (pv 0) T.clF m_Field_inverse ok_Field_inverse (hr.mono (by decide)) b_Field_inverse .nil pass0 (pa_cons (pe_ix ix_list (pv 7) (pe_un un_neg pe_int) (fun _ _ => rfl)) pa_nil)))
      (pss_one (ps_ret (pe_tup (pa_cons (pe_call ok_poly_scale (hr.mono (by decide)) (by rfl) mg_poly_scale kp_poly_scale b_poly_scale .nil pass0 (pa_cons (pv 0) (pa_cons (pv 5) (pa_cons (pv 11) pa_nil)))) (pa_cons (pe_call ok_poly_scale (hr.mono (by decide)) (by rfl) mg_poly_scale kp_poly_scale b_poly_scale .nil pass0 (pa_cons (pv 0) (pa_cons (pv 7) (pa_cons (pv 11) pa_nil)))) pa_nil)))))))))), ?_⟩
    refine ⟨_, rfl, l1, _, rfl, .inl hM, rfl, _, rfl, ?_⟩
    rw [decide_eq_false (show ¬ V.int ((ve M).length : Nat) = V.int 0 by rw [ve_len]; intro z; injection z with z; omega)]
    refine iteF ?_
    -- before, top = modulus, value; before_bottom, bottom = [], [1]
    refine ⟨_, rfl, _, rfl, _, _, rfl, ?_⟩
    refine ⟨Nat.zero_le _, fun z hz => ⟨by show 1 ≤ sizeLine; decide, fun o ho => ?_⟩⟩
    have s0 : Same H (upd (upd H z (.lst [])) o (.lst [.int 1])) := (newS hz).trans (newS ho)
    refine ⟨_, _, rfl, ?_⟩
    have hz0 : upd (upd H z (.lst [])) o (.lst [.int 1]) z = some (.lst (ve ([] : List (GF i)))) := newS ho _ _ upd_same
    have ho0 : upd (upd H z (.lst [])) o (.lst [.int 1]) o = some (.lst (ve ([1] : List (GF i)))) := by
      rw [upd_same]
      show some (HO.lst [V.int 1]) = some (HO.lst [V.int (1 : GF i).enc])
      rw [GF.enc_one]
    refine ⟨fun n σ H' => ∃ (r : Row (GF i)) (a1 a2 a3 a4 : Addr) (v1 v2 v3 : Option V), σ = [some (.ref fa), some (.ref l1), some (.ref l2), some (.int bound), some (.ref a1), some (.ref a2), some (.ref a3), some (.ref a4), v1, v2, v3, none] ∧ Same H H' ∧
      SqL K H' a1 (ve r.before) ∧ SqL K H' a2 (ve r.top) ∧ SqL K H' a3 (ve r.before_bottom) ∧ SqL K H' a4 (ve r.bottom) ∧ RowInv xs ys bound r ∧ r.top.length ≤ n ∧ rowsN bound n r = lastRow M A bound,
      ⟨A.length, ⟨M, A, [], [1]⟩, l1, l2, z, o, none, none, none, rfl, s0, s0.seq hM, s0.seq hA, SqL.of hz0, SqL.of ho0, R0, Nat.le_refl _, rfl⟩, ?_⟩
    rintro n σ H1 ⟨r, a1, a2, a3, a4, v1, v2, v3, rfl, s1, hb, ht, hbb, hv, R, hn, hrows⟩
    refine ⟨_, rfl, a2, _, rfl, ht, _, rfl, _, _, rfl, rfl, _, rfl, ?_⟩
    have sum := R.sum
    have vlt := R.vlt
    have tlt := R.lt
    by_cases hc : bound < r.top.length
    · have e : decide (((bound : Nat) : Int) ≤ ((ve r.top).length : Nat) - 1) = true := decide_eq_true (by rw [ve_len]; omega)
      rw [e]
      obtain ⟨R', hl'⟩ := rowStep_inv R hc
      have tne : r.top ≠ [] := fun z => by rw [z] at hc; simp at hc
      refine iteT ⟨fun σ' H' => ∃ (a1 a2 a3 a4 : Addr) (v1 v2 v3 : Option V), σ' = [some (.ref fa), some (.ref l1), some (.ref l2), some (.int bound), some (.ref a1), some (.ref a2), some (.ref a3), some (.ref a4), v1, v2, v3, none] ∧ Same H H' ∧
        SqL K H' a1 (ve (rowStep r).before) ∧ SqL K H' a2 (ve (rowStep r).top) ∧ SqL K H' a3 (ve (rowStep r).before_bottom) ∧ SqL K H' a4 (ve (rowStep r).bottom), ?_, ?_⟩
      · rintro σ' H' ⟨a1, a2, a3, a4, v1, v2, v3, rfl, s', q1, q2, q3, q4⟩
        obtain ⟨n', rfl⟩ : ∃ n', n = n' + 1 := ⟨n - 1, by omega⟩
        rw [rowsN_step hc] at hrows
        exact ⟨n', by omega, rowStep r, a1, a2, a3, a4, v1, v2, v3, rfl, s', q1, q2, q3, q4, R', by omega, hrows⟩
      · -- quotient, rest = poly_divide(field, before, top)
        refine ⟨_, rfl, _, rfl, _, rfl, fa, a1, a2, i, _, _, rfl, fieldS s1 hF, hb, ht, R.tt, tne, by omega, by omega, fun H2 p2 q2 r2 s2 h2 hq2 hr2 => ?_⟩
        refine ⟨p2, _, rfl, SqT.of h2, rfl, _, _, rfl, _, _, rfl, rfl, ?_⟩
        have s12 := s1.trans s2
        have lq := pdiv_quot_le (a := r.before) (b := r.top)
        -- lower = poly_subtract(field, before_bottom, poly_multiply(field, quotient, bottom))
        refine ⟨_, rfl, _, rfl, _, rfl, _, rfl, _, rfl, fa, q2, a4, i, _, _, rfl, fieldS s12 hF, SqL.of hq2, s2.seq hv, by omega, by omega, fun H3 p3 s3 n3 h3 => ?_⟩
        have s13 := s12.trans s3
        have s23 := s2.trans s3
        refine ⟨fa, a3, p3, i, _, _, rfl, fieldS s13 hF, s23.seq hbb, SqL.of h3, by omega, ?_, fun H4 p4 s4 n4 h4 => ?_⟩
        · refine Nat.le_trans (pmul_length_le _ _) ?_
          omega
        have s24 := s23.trans s4
        refine ⟨_, rfl, _, rfl, _, _, rfl, _, rfl, _, rfl, _, _, rfl, ?_⟩
        exact ⟨a2, r2, a4, p4, _, _, _, rfl, s13.trans s4, s24.seq ht, SqL.of (s4 _ _ (s3 _ _ hr2)), s24.seq hv, SqL.of h4⟩
    · have e : decide (((bound : Nat) : Int) ≤ ((ve r.top).length : Nat) - 1) = false := decide_eq_false (by rw [ve_len]; omega)
      rw [e]
      refine iteF ?_
      have hrow : r = lastRow M A bound := by rw [← hrows, rowsN_short n (by omega)]
      -- factor = field.inverse(bottom[-1])
      have vl : r.bottom.getD (r.bottom.length - 1) 0 ≠ 0 := tr_last (n := r.bottom.length - 1) R.tv (by omega)
      refine ⟨_, rfl, fa, dx, _, rfl, s1 _ _ hf, fF_inverse i m, _, rfl, _, rfl, a4, _, _, _, rfl, rfl, hv, at_neg1 (by rw [ve_len]; exact ve_at (j := r.bottom.length - 1) (by omega)), fa, i, _, rfl, fieldS s1 hF, vl, fun H2 s2 => ?_⟩
      have s12 := s1.trans s2
      refine ⟨_, rfl, _, rfl, _, rfl, fa, a2, i, _, _, rfl, fieldS s12 hF, s2.seq ht, by omega, fun H3 p3 s3 n3 h3 => ?_⟩
      refine ⟨_, rfl, _, rfl, _, rfl, fa, a4, i, _, _, rfl, fieldS (s12.trans s3) hF, (s2.trans s3).seq hv, by omega, fun H4 p4 s4 n4 h4 => ?_⟩
      refine ⟨by show 2 ≤ sizeLine; decide, fun p hp => ?_⟩
      have u := newS (o := .tup [.ref p3, .ref p4]) hp
      have e1 : pscale r.top (r.bottom.getD (r.bottom.length - 1) 0)⁻¹ = keyTop M A bound := by rw [hrow]; rfl
      have e2 : pscale r.bottom (r.bottom.getD (r.bottom.length - 1) 0)⁻¹ = keyBottom M A bound := by rw [hrow]; rfl
      rw [e1] at h3
      rw [e2] at h4
      exact k _ p p3 p4 (((s12.trans s3).trans s4).trans u) upd_same (u _ _ (s4 _ _ h3)) (u _ _ h4)
end
end NW

set_option Elab.async false
set_option linter.all false
set_option maxRecDepth 100000
set_option maxHeartbeats 4000000
namespace NW
open PySem L2 GP
/-! ### received words -/
def vo {i : Fin 8} : Option (GF i) → V
  | none => .non
  | some a => .int a.enc
abbrev vr {i : Fin 8} (R : List (Option (GF i))) : List V := R.map vo
section
variable {i : Fin 8}
theorem vr_len (R : List (Option (GF i))) : (vr R).length = R.length := List.length_map _
theorem vr_at {R : List (Option (GF i))} {j : Nat} (h : j < R.length) : (vr R)[j]? = some (vo (R.getD j none)) := by
  rw [List.getElem?_map, List.getD_eq_getElem?_getD, List.getElem?_eq_getElem h]; rfl
end
/-- a walk by turns over a range, over a list: the bookkeeping of two-for comprehensions -/
theorem w_range {lo : Int} {n : Nat} {H0 : Hp} {Qd : Hp → Prop} {Body : V → Hp → (Hp → Prop) → Prop} (Pv : Nat → Hp → Prop) (h0 : Pv 0 H0) (hs : ∀ i H, i < n → Pv i H → Body (.int (lo + i)) H (Pv (i + 1))) (hd : ∀ H, Pv n H → Qd H) :
    ∃ W : Nat → Nat → Hp → Prop, (∃ m, W 0 m H0) ∧ ∀ i m H, W i m H →
      ((Itr lo n).stop i H ∧ Qd H) ∨ ((Itr lo n).go i H ∧ ∃ Nx : Hp → Prop, (∀ H', Nx H' → ∃ m', m' < m ∧ W (i + 1) m' H') ∧ ∀ x H', (Itr lo n).yld i H x H' → Body x H' Nx) := by
  refine ⟨fun i m H => m = n - i ∧ i ≤ n ∧ Pv i H, ⟨n, rfl, Nat.zero_le _, h0⟩, ?_⟩
  rintro i m H ⟨rfl, hi, p⟩
  rcases Nat.lt_or_ge i n with hlt | hge
  · refine .inr ⟨hlt, Pv (i + 1), fun H' p' => ⟨n - (i + 1), by omega, rfl, hlt, p'⟩, ?_⟩
    rintro x H' ⟨e, rfl⟩
    rw [e]
    exact hs i H hlt p
  · have e : i = n := by omega
    subst e
    exact .inl ⟨Nat.le_refl _, hd H p⟩
theorem w_list {K : PySem.W.Frag} {a : Addr} {xs : List V} {H0 : Hp} {Qd : Hp → Prop} {Body : V → Hp → (Hp → Prop) → Prop} (Pv : Nat → Hp → Prop) (h0 : Pv 0 H0) (hl : ∀ i H, Pv i H → SqL K H a xs) (hs : ∀ i x H, xs[i]? = some x → Pv i H → Body x H (Pv (i + 1))) (hd : ∀ H, Pv xs.length H → Qd H) :
    ∃ W : Nat → Nat → Hp → Prop, (∃ m, W 0 m H0) ∧ ∀ i m H, W i m H →
      ((Itl K a).stop i H ∧ Qd H) ∨ ((Itl K a).go i H ∧ ∃ Nx : Hp → Prop, (∀ H', Nx H' → ∃ m', m' < m ∧ W (i + 1) m' H') ∧ ∀ x H', (Itl K a).yld i H x H' → Body x H' Nx) := by
  refine ⟨fun i m H => m = xs.length - i ∧ i ≤ xs.length ∧ Pv i H, ⟨xs.length, rfl, Nat.zero_le _, h0⟩, ?_⟩
  rintro i m H ⟨rfl, hi, p⟩
  have q := hl i H p
  rcases Nat.lt_or_ge i xs.length with hlt | hge
  · refine .inr ⟨⟨xs, xs[i], q, List.getElem?_eq_getElem hlt⟩, Pv (i + 1), fun H' p' => ⟨xs.length - (i + 1), by omega, rfl, hlt, p'⟩, ?_⟩
    rintro x H' ⟨e, y⟩
    rw [e]
    exact hs i x H (y xs q) p
  · have e : i = xs.length := by omega
    subst e
    exact .inl ⟨⟨xs, q, Nat.le_refl _⟩, hd H p⟩
section
variable {P : Program} {w : World} {K : PySem.W.Frag} {mg : Str → Option Value} {base : Heap} {CF CE CI : Addr}

/-! ### check_lengths -/
abbrev s_check_lengths : Stmt := top 21
abbrev N_check_lengths : List Str := ["first", "second"]
theorem sc_check_lengths : FnScope N_check_lengths ["first", "second"] (defScope s_check_lengths) := ⟨rfl, rfl, rfl, by decide +kernel, rfl, by decide +kernel, by decide +kernel⟩
def sp_check_lengths (K : PySem.W.Frag) : Sp := fun vs H Q _ => ∃ (a b : Addr) (xs ys : List V), vs = [.ref a, .ref b] ∧ SqL K H a xs ∧ SqL K H b ys ∧ xs.length = ys.length ∧ Q .non H
theorem ok_check_lengths {f : Addr} {fd' : FuncData} (F : Fun K "check_lengths" "check_lengths" s_check_lengths f fd') (T : Txt K mg CF CE CI) : FnOk P w K mg base CX0 1 f fd' ["first", "second"] (sp_check_lengths K) := by
  refine F.ok sc_check_lengths (fun vs H Q E h => ?_) (fun cdv A outer s H vs Q E hr h => ?_)
  · obtain ⟨a, b, xs, ys, rfl, _⟩ := h; rfl
  · obtain ⟨a, b, xs, ys, rfl, ha, hb, hl, k⟩ := h
    refine ⟨_, (pss_one (ps_if (pt_cmpR op_ne (pe_callB call_len_seq (by rfl) T.n_len bt_len (pa_cons (pv 0) pa_nil)) (pe_callB call_len_seq (by rfl) T.n_len bt_len (pa_cons (pv 1) pa_nil)) (nomark _)) (pss_one ps_never) pss_nil)), ?_⟩
    refine ⟨_, rfl, a, _, rfl, .inl ha, _, rfl, b, _, rfl, .inl hb, rfl, _, rfl, ?_⟩
    exact iteNS (by rw [hl]) k

/-! ### errors_beside -/
abbrev s_errors_beside : Stmt := top 22
abbrev N_errors_beside : List Str := ["word", "received", "errors", "position"]
theorem sc_errors_beside : FnScope N_errors_beside ["word", "received"] (defScope s_errors_beside) := ⟨rfl, rfl, rfl, by decide +kernel, rfl, by decide +kernel, by decide +kernel⟩
def sp_errors_beside (K : PySem.W.Frag) : Sp := fun vs H Q _ => ∃ (a b : Addr) (i : Fin 8) (W : List (GF i)) (R : List (Option (GF i))), vs = [.ref a, .ref b] ∧ SqL K H a (ve W) ∧ SqL K H b (vr R) ∧ W.length = R.length ∧ W.length ≤ 1000 ∧ Q (.int (errs W R)) H
theorem ok_errors_beside {f : Addr} {fd' : FuncData} (F : Fun K "errors_beside" "errors_beside" s_errors_beside f fd') (T : Txt K mg CF CE CI)
    (c1 : Cal P w K mg base CX0 "check_lengths" ["first", "second"] 1 (sp_check_lengths K)) : FnOk P w K mg base CX0 2 f fd' ["word", "received"] (sp_errors_beside K) := by
  obtain ⟨f_check_lengths, _, ok_check_lengths, mg_check_lengths, kp_check_lengths, b_check_lengths⟩ := c1
  refine F.ok sc_errors_beside (fun vs H Q E h => ?_) (fun cdv A outer s H vs Q E hr h => ?_)
  · obtain ⟨a, b, i, W, R, rfl, _⟩ := h; rfl
  · obtain ⟨a, b, i, W, R, rfl, ha, hb, hl, hl2, k⟩ := h
    refine ⟨_, (pss_cons (ps_expr (pe_call ok_check_lengths (hr.mono (by decide)) (by rfl) mg_check_lengths kp_check_lengths b_check_lengths .nil pass0 (pa_cons (pv 0) (pa_cons (pv 1) pa_nil))))
      (pss_cons (ps_set (i := 2) sc_errors_beside.nd rfl (Or.inl rfl) pe_int)
      (pss_cons (ps_for PassesOwn.never rfl (pi_range1 (by rfl) T.n_range (pa_cons (pe_callB call_len_seq (by rfl) T.n_len bt_len (pa_cons (pv 0) pa_nil)) pa_nil)) (pg_name (i := 3) sc_errors_beside.nd rfl (Or.inl rfl)) (pss_one (ps_if (PW.pt (pw_and (pt_cmpR op_notN (pe_ix ix_list (pv 1) (pv 3) (fun _ _ => rfl)) pe_non (nomark _)) (pw_and1 (pt_cmpR op_ne (pe_ix ix_list (pv 1) (pv 3) (fun _ _ => rfl)) (pe_ix ix_list (pv 0) (pv 3) (fun _ _ => rfl)) (nomark _))))) (pss_one (ps_aug (i := 2) sc_errors_beside.nd rfl (Or.inl rfl) pe_int ip_add)) pss_nil)))
      (pss_one (ps_ret (pv 2)))))), ?_⟩
    refine ⟨_, rfl, _, rfl, a, b, _, _, rfl, ha, hb, by rw [ve_len, vr_len, hl], ?_⟩
    refine ⟨_, rfl, a, _, rfl, .inl ha, _, rfl, by omega, by rw [ve_len]; omega, ?_⟩
    rw [Int.toNat_natCast, ve_len]
    refine for_range (fun j σ H' => ∃ v, σ = [some (.ref a), some (.ref b), some (.int (errsN W R j : Nat)), v] ∧ H' = H) ⟨none, rfl, rfl⟩ ?_ ?_
    · rintro j σ H' hj ⟨v, rfl, rfl⟩
      have ej : (0 : Int) + (j : Nat) = ((j : Nat) : Int) := by omega
      have hbj : atI (vr R) (0 + (j : Nat)) = some (vo (R.getD j none)) := at_of ej (vr_at (by omega))
      refine ⟨_, rfl, _, rfl, b, _, _, _, rfl, rfl, hb, hbj, rfl, _, rfl, ?_⟩
      have hs := errsN_succ W R j
      cases hR : R.getD j none with
      | none =>
        have hbad : bad W R j = false := by unfold bad; rw [hR]
        rw [hbad] at hs
        have e : (!decide (vo (none : Option (GF i)) = V.non)) = false := by simp [vo]
        rw [e]
        exact iteF (iteF ⟨_, by rw [hs]; rfl, rfl⟩)
      | some c =>
        rw [hR] at hbj
        have e : (!decide (vo (some c : Option (GF i)) = V.non)) = true := by simp [vo]
        rw [e]
        refine iteT ⟨_, rfl, _, rfl, b, _, _, _, rfl, rfl, hb, hbj, _, rfl, _, rfl, a, _, _, _, rfl, rfl, ha, at_of ej (ve_at (by omega)), rfl, _, rfl, ?_⟩
        by_cases hc : c = W.getD j 0
        · have hbad : bad W R j = false := by unfold bad; rw [hR]; simp [hc]
          rw [hbad] at hs
          have e2 : (!decide (vo (some c) = V.int (W.getD j 0).enc)) = false := by rw [hc]; simp [vo]
          rw [e2]
          exact iteF ⟨_, by rw [hs]; rfl, rfl⟩
        · have hbad : bad W R j = true := by unfold bad; rw [hR]; exact decide_eq_true hc
          rw [hbad] at hs
          have e2 : (!decide (vo (some c) = V.int (W.getD j 0).enc)) = true := by
            rw [decide_eq_false (fun z => hc (GF.enc_inj (by injection z)))]; rfl
          rw [e2]
          refine iteT ⟨_, rfl, _, _, rfl, rfl, some (.int (0 + (j : Nat))), ?_, rfl⟩
          rw [hs]
          rfl
    · rintro σ H' ⟨v, rfl, rfl⟩
      exact ⟨_, rfl, k⟩

/-! ### is_received -/
abbrev s_is_received : Stmt := top 23
abbrev N_is_received : List Str := ["field", "length", "received", "item"]
theorem sc_is_received : FnScope N_is_received ["field", "length", "received"] (defScope s_is_received) := ⟨rfl, rfl, rfl, by decide +kernel, rfl, by decide +kernel, by decide +kernel⟩
def sp_is_received (K : PySem.W.Frag) (CF : Addr) : Sp := fun vs H Q _ => ∃ (fa l : Addr) (i : Fin 8) (R : List (Option (GF i))), vs = [.ref fa, .int (R.length : Nat), .ref l] ∧ FieldAt K CF H fa i ∧ SqL K H l (vr R) ∧ Q (.bl true) H
theorem ok_is_received {f : Addr} {fd' : FuncData} (F : Fun K "is_received" "is_received" s_is_received f fd') (T : Txt K mg CF CE CI) : FnOk P w K mg base CX0 1 f fd' ["field", "length", "received"] (sp_is_received K CF) := by
  refine F.ok sc_is_received (fun vs H Q E h => ?_) (fun cdv A outer s H vs Q E hr h => ?_)
  · obtain ⟨fa, l, i, R, rfl, _⟩ := h; rfl
  · obtain ⟨fa, l, i, R, rfl, ⟨dx, m, hf, hm⟩, hl, k⟩ := h
    refine ⟨_, (pss_cons (ps_if (pt_cmpR op_ne (pe_callB call_len_seq (by rfl) T.n_len bt_len (pa_cons (pv 2) pa_nil)) (pv 1) (nomark _)) (pss_one (ps_ret pe_bl)) pss_nil)
      (pss_cons (ps_for PassesOwn.never rfl (pi_list (pv 2)) (pg_name (i := 3) sc_is_received.nd rfl (Or.inl rfl)) (pss_one (ps_if (PW.pt (pw_and (pt_cmpR op_notN (pv 3) pe_non (nomark _)) (pw_and1 (pt_not (pt_chain op_le op_lt pe_int (pv 3) (pe_fld (pv 0) rfl)))))) (pss_one (ps_ret pe_bl)) pss_nil)))
      (pss_one (ps_ret pe_bl)))), ?_⟩
    refine ⟨_, rfl, l, _, rfl, .inl hl, _, rfl, rfl, _, rfl, ?_⟩
    refine iteNS (by rw [vr_len]) ?_
    refine ⟨_, rfl, l, rfl, ⟨_, hl⟩, for_list (K := K) (a := l) (xs := vr R) (fun j σ H' => ∃ v, σ = [some (.ref fa), some (.int (R.length : Nat)), some (.ref l), v] ∧ H' = H) ⟨none, rfl, rfl⟩ (fun j σ H' _ ⟨_, _, e⟩ => by rw [e]; exact hl) ?_ ?_⟩
    · rintro j x σ H' hx ⟨v, rfl, rfl⟩
      rw [List.getElem?_map] at hx
      cases hR : R[j]? with
      | none => rw [hR] at hx; cases hx
      | some o =>
        rw [hR] at hx
        have hx' : vo o = x := Option.some.inj hx
        subst hx'
        refine ⟨_, rfl, rfl, _, rfl, ?_⟩
        cases o with
        | none =>
          have e : (!decide (vo (none : Option (GF i)) = V.non)) = false := by simp [vo]
          rw [e]
          exact iteF (iteF ⟨_, rfl, rfl⟩)
        | some c =>
          have e : (!decide (vo (some c : Option (GF i)) = V.non)) = true := by simp [vo]
          rw [e]
          have c0 := c.enc_nonneg
          have c1 := c.enc_lt
          refine iteT ⟨_, rfl, _, _, rfl, rfl, _, rfl, ?_⟩
          rw [decide_eq_true c0]
          refine iteT ⟨_, rfl, fa, CF, dx, _, _, rfl, hf, T.clF, T.fF_order, fF_order i m, _, _, rfl, rfl, _, rfl, ?_⟩
          rw [decide_eq_true (show c.enc < ((fq i : Nat) : Int) from c1)]
          exact iteF ⟨_, rfl, rfl⟩
    · rintro σ H' ⟨v, rfl, rfl⟩
      exact k

/-! ### interleave -/
/-- at l a list of lists, all of length n -/
def LL (K : PySem.W.Frag) (H : Hp) (l : Addr) (xss : List (List V)) (n : Nat) : Prop := ∃ as : List Addr, SqL K H l (as.map V.ref) ∧ as.length = xss.length ∧ ∀ (j : Nat) (a : Addr), as[j]? = some a → ∃ xs, xss[j]? = some xs ∧ SqL K H a xs ∧ xs.length = n
theorem LL_mono {K : PySem.W.Frag} {H H' : Hp} {l : Addr} {xss : List (List V)} {n : Nat} (s : Same H H') (h : LL K H l xss n) : LL K H' l xss n := by
  obtain ⟨as, h1, h2, h3⟩ := h
  exact ⟨as, s.seq h1, h2, fun j a ha => let ⟨xs, q1, q2, q3⟩ := h3 j a ha; ⟨xs, q1, s.seq q2, q3⟩⟩
theorem refs_get {as : List Addr} {j : Nat} {x : V} (h : (as.map V.ref)[j]? = some x) : ∃ a, as[j]? = some a ∧ x = .ref a := by
  rw [List.getElem?_map] at h
  cases e : as[j]? with
  | none => rw [e] at h; cases h
  | some a => rw [e] at h; exact ⟨a, rfl, (Option.some.inj h).symm⟩
abbrev s_interleave : Stmt := top 25
abbrev N_interleave : List Str := ["words", "word", "k"]
theorem sc_interleave : FnScope N_interleave ["words"] (defScope s_interleave) := ⟨rfl, rfl, rfl, by decide +kernel, rfl, by decide +kernel, by decide +kernel⟩
def sp_interleave (K : PySem.W.Frag) : Sp := fun vs H Q _ => ∃ (l : Addr) (xss : List (List V)) (n : Nat), vs = [.ref l] ∧ LL K H l xss n ∧ 0 < xss.length ∧ xss.length ≤ 100 ∧ n ≤ 100 ∧ GL H Q (mixL .non xss n)
theorem ok_interleave {f : Addr} {fd' : FuncData} (F : Fun K "interleave" "interleave" s_interleave f fd') (T : Txt K mg CF CE CI) : FnOk P w K mg base CX0 1 f fd' ["words"] (sp_interleave K) := by
  refine F.ok sc_interleave (fun vs H Q E h => ?_) (fun cdv A outer s H vs Q E hr h => ?_)
  · obtain ⟨l, xss, n, rfl, _⟩ := h; rfl
  · obtain ⟨l, xss, n, rfl, hL, h0, hx, hn, k⟩ := h
    have hL' := hL
    obtain ⟨as, hl, hlen, hat⟩ := hL'
    refine ⟨_, (pss_cons (ps_if (pt_cmpR op_eq (pe_callB call_len_seq (by rfl) T.n_len bt_len (pa_cons (pv 0) pa_nil)) pe_int (nomark _)) (pss_one ps_never) pss_nil)
      (pss_cons (ps_for PassesOwn.never rfl (pi_list (pv 0)) (pg_name (i := 1) sc_interleave.nd rfl (Or.inl rfl)) (pss_one (ps_if (pt_cmpR op_ne (pe_callB call_len_seq (by rfl) T.n_len bt_len (pa_cons (pv 1) pa_nil)) (pe_callB call_len_seq (by rfl) T.n_len bt_len (pa_cons (pe_ix ix_list (pv 0) pe_int (fun _ _ => rfl)) pa_nil)) (nomark _)) (pss_one ps_never) pss_nil)))
      (pss_one (ps_ret (pe_lc2 (own := [("k", 2), ("word", 1)]) (vs1 := [1]) rfl sc_interleave.nd (pi_range1 (by rfl) T.n_range (pa_cons (pe_callB call_len_seq (by rfl) T.n_len bt_len (pa_cons (pe_ix ix_list (pv 0) pe_int (fun _ _ => rfl)) pa_nil)) pa_nil)) (blkOk_by (own := [("k", 2), ("word", 1)]) (N := N_interleave) (sc := defScope s_interleave) (by decide +kernel)) (by decide) (fun _ _ _ _ _ => pg_name (i := 2) sc_interleave.nd rfl (Or.inl rfl)) (fun _ _ _ _ _ => pts_nil) (fun _ _ _ _ _ => (pi_listK K rfl (pv 0))) (fun _ _ _ _ _ => pg_name (i := 1) sc_interleave.nd rfl (Or.inl rfl)) (fun _ _ _ _ _ => pts_nil) (fun _ _ _ _ _ => (pe_ix (ix_listK K rfl) (pv 1) (pv 2) (fun _ _ => rfl)))))))), ?_⟩
    refine ⟨_, rfl, l, _, rfl, .inl hl, rfl, _, rfl, ?_⟩
    rw [decide_eq_false (show ¬ V.int ((as.map V.ref).length : Nat) = V.int 0 by rw [List.length_map]; intro z; injection z with z; omega)]
    refine iteF ?_
    obtain ⟨a0, ha0⟩ : ∃ a0, as[0]? = some a0 := ⟨as[0], List.getElem?_eq_getElem (by omega)⟩
    obtain ⟨xs0, hx0, hs0, hn0⟩ := hat 0 a0 ha0
    have at0 : atI (as.map V.ref) 0 = some (.ref a0) := at_nat (j := 0) (by rw [List.getElem?_map, ha0]; rfl)
    refine ⟨_, rfl, l, rfl, ⟨_, hl⟩, for_list (K := K) (a := l) (xs := as.map V.ref) (fun j σ H' => ∃ v, σ = [some (.ref l), v, none] ∧ H' = H) ⟨none, rfl, rfl⟩ (fun j σ H' _ ⟨_, _, e⟩ => by rw [e]; exact hl) ?_ ?_⟩
    · rintro j x σ H' hx ⟨v, rfl, rfl⟩
      obtain ⟨a, ha, rfl⟩ := refs_get hx
      obtain ⟨xs, q1, q2, q3⟩ := hat j a ha
      refine ⟨_, rfl, a, _, rfl, .inl q2, _, rfl, l, _, _, _, rfl, rfl, hl, at0, a0, _, rfl, .inl hs0, rfl, _, rfl, ?_⟩
      exact iteNS (by rw [q3, hn0]) ⟨_, rfl, rfl⟩
    · rintro σ H' ⟨v, rfl, rfl⟩
      refine ⟨_, rfl, l, _, _, _, rfl, rfl, hl, at0, a0, _, rfl, .inl hs0, _, rfl, by omega, by omega, fun D hD => ?_⟩
      rw [Int.toNat_natCast, hn0]
      refine w_range (fun kk H2 => H2 = upd H' D (.lst (mixL .non xss kk))) rfl ?_ ?_
      · rintro kk H2 hkk rfl
        refine ⟨rfl, ?_⟩
        have u := newS (o := .lst (mixL .non xss kk)) hD
        refine ⟨_, rfl, l, rfl, ⟨_, u.seq hl⟩, ?_⟩
        refine w_list (K := K) (a := l) (xs := as.map V.ref) (fun j H2 => H2 = upd H' D (.lst (mixL .non xss kk ++ (xss.take j).map fun xs => xs.getD kk .non))) (by simp) (fun j H2 e => by rw [e]; exact (newS hD).seq hl) ?_ ?_
        · rintro j x H2 hx rfl
          obtain ⟨a, ha, rfl⟩ := refs_get hx
          obtain ⟨xs, q1, q2, q3⟩ := hat j a ha
          have hjl : j < xss.length := (List.getElem?_eq_some_iff.mp q1).1
          have hget : xs[kk]? = some (xs.getD kk .non) := by rw [List.getD_eq_getElem?_getD, List.getElem?_eq_getElem (by omega)]; rfl
          refine ⟨rfl, _, rfl, _, rfl, a, _, _, _, rfl, rfl, (newS hD).seq q2, at_of (by simp) hget, _, upd_same, smallLt ?_, ?_⟩
          · rw [List.length_append, mixL_length, List.length_map, List.length_take]
            have : kk * xss.length ≤ 100 * 100 := Nat.mul_le_mul (by omega) (by omega)
            omega
          · rw [upd_upd, List.take_add_one, q1, List.map_append, List.append_assoc]
            rfl
        · rintro H2 rfl
          rw [List.length_map, hlen, List.take_length]
          have e : mixL .non xss (kk + 1) = mixL .non xss kk ++ xss.map fun xs => xs.getD kk .non := by
            unfold mixL
            rw [List.range_succ, List.flatMap_append]
            simp
          rw [e]
      · rintro H2 rfl
        exact k _ _ (newS hD) hD upd_same

/-! ### spread -/
abbrev s_spread : Stmt := top 26
abbrev N_spread : List Str := ["word", "depth", "k"]
theorem sc_spread : FnScope N_spread ["word", "depth"] (defScope s_spread) := ⟨rfl, rfl, rfl, by decide +kernel, rfl, by decide +kernel, by decide +kernel⟩
def sp_spread (K : PySem.W.Frag) : Sp := fun vs H Q _ => ∃ (l : Addr) (xs : List V) (d n : Nat), vs = [.ref l, .int d] ∧ SqL K H l xs ∧ xs.length = d * n ∧ 1 ≤ d ∧ d ≤ 1000 ∧
  ∀ H' p (as : List Addr), Same H H' → H p = none → H' p = some (.lst (as.map V.ref)) → as.length = d → (∀ (j : Nat) (a : Addr), as[j]? = some a → H' a = some (.lst (cutSt .non xs j d n))) → Q (.ref p) H'
theorem ok_spread {f : Addr} {fd' : FuncData} (F : Fun K "spread" "spread" s_spread f fd') (T : Txt K mg CF CE CI) : FnOk P w K mg base CX0 1 f fd' ["word", "depth"] (sp_spread K) := by
  refine F.ok sc_spread (fun vs H Q E h => ?_) (fun cdv A outer s H vs Q E hr h => ?_)
  · obtain ⟨l, xs, d, n, rfl, _⟩ := h; rfl
  · obtain ⟨l, xs, d, n, rfl, hl, hlen, hd1, hd2, k⟩ := h
    refine ⟨_, (pss_cons (ps_if (PW.pt (pw_or (pt_cmpR op_lt (pv 1) pe_int (nomark _)) (pw_or1 (pt_cmpR op_ne (pe_op op_mod (pe_callB call_len_seq (by rfl) T.n_len bt_len (pa_cons (pv 0) pa_nil)) (pv 1)) pe_int (nomark _))))) (pss_one ps_never) pss_nil)
      (pss_one (ps_ret (pe_lc (own := [("k", 2)]) rfl sc_spread.nd (pi_range1 (by rfl) T.n_range (pa_cons (pv 1) pa_nil)) (blkOk_by (own := [("k", 2)]) (N := N_spread) (sc := defScope s_spread) (by decide +kernel)) (fun _ _ _ _ _ => pg_name (i := 2) sc_spread.nd rfl (Or.inl rfl)) (fun _ _ _ _ _ => pts_nil) (fun _ _ _ _ _ => (pe_sliceStep K rfl (pv 0) (pv 2) (pv 1))))))), ?_⟩
    refine ⟨_, rfl, _, _, rfl, rfl, _, rfl, ?_⟩
    rw [decide_eq_false (show ¬ ((d : Nat) : Int) < 1 by omega)]
    refine iteF ⟨_, rfl, l, _, rfl, .inl hl, _, rfl, _, _, rfl, rfl, (by show (0 : Int) < d; omega), rfl, _, rfl, ?_⟩
    refine iteNS (show V.int (((xs.length : Nat) : Int) % (d : Int)) = V.int 0 by rw [hlen, Int.natCast_mul, Int.mul_emod_right]) ?_
    refine ⟨_, rfl, _, rfl, by omega, by omega, fun D hD => ?_⟩
    rw [Int.toNat_natCast]
    refine lc_range (fun j H' => ∃ as : List Addr, Same H H' ∧ H' D = some (.lst (as.map V.ref)) ∧ as.length = j ∧ ∀ (t : Nat) (a : Addr), as[t]? = some a → H' a = some (.lst (cutSt .non xs t d n)) ∧ a ≠ D) ⟨[], newS hD, upd_same, rfl, fun t a h => by simp at h⟩ ?_ ?_
    · rintro j H' hj ⟨as, s', hD', hal, hat⟩
      refine ⟨rfl, _, rfl, _, rfl, _, rfl, l, xs, j, d, n, rfl, by simp, rfl, s'.seq hl, hlen, hj, fun p hp => ?_⟩
      have npD : D ≠ p := ne_of_none hD' hp
      refine ⟨_, (by rw [upd_ne npD]; exact hD'), smallLt (by rw [List.length_map]; omega), as ++ [p], mutS (s'.trans (newS hp)) hD, ?_, by simp [hal], ?_⟩
      · rw [upd_same]; simp
      · intro t a ha
        by_cases ht : t < as.length
        · rw [List.getElem?_append_left ht] at ha
          obtain ⟨h1, naD⟩ := hat t a ha
          refine ⟨?_, naD⟩
          rw [upd_ne naD, upd_ne (ne_of_none h1 hp)]
          exact h1
        · have htl : t < (as ++ [p]).length := (List.getElem?_eq_some_iff.mp ha).1
          rw [List.length_append, List.length_cons, List.length_nil] at htl
          have et : t = as.length := by omega
          subst et
          rw [List.getElem?_append_right (Nat.le_refl _), Nat.sub_self] at ha
          have ep : p = a := Option.some.inj ha
          subst ep
          refine ⟨?_, npD.symm⟩
          rw [upd_ne npD.symm, upd_same, hal]
    · rintro H' ⟨as, s', hD', hal, hat⟩
      exact k _ D as s' hD hD' hal fun t a ha => (hat t a ha).1
end
end NW

set_option Elab.async false
set_option linter.all false
set_option maxRecDepth 100000
set_option maxHeartbeats 4000000
namespace NW
open PySem L2 GP
/-! ### the attributes of the evaluation code and of the interleaved code -/
theorem s_fl : ¬ (("field" : Str) = "length") := by decide +kernel
theorem s_fd : ¬ (("field" : Str) = "dimension") := by decide +kernel
theorem s_fp : ¬ (("field" : Str) = "_points") := by decide +kernel
theorem s_ld : ¬ (("length" : Str) = "dimension") := by decide +kernel
theorem s_lp : ¬ (("length" : Str) = "_points") := by decide +kernel
theorem s_dp : ¬ (("dimension" : Str) = "_points") := by decide +kernel
def fE (fa : Addr) (n k : Nat) (pa : Addr) : List (Str × V) := putF "_points" (.ref pa) (putF "dimension" (.int k) (putF "length" (.int n) (putF "field" (.ref fa) [])))
theorem fE_points (fa : Addr) (n k : Nat) (pa : Addr) : (fE fa n k pa).lookup ("_points" : Str) = some (.ref pa) := by
  unfold fE
  rw [lookup_putF, if_pos rfl]
theorem fE_dimension (fa : Addr) (n k : Nat) (pa : Addr) : (fE fa n k pa).lookup ("dimension" : Str) = some (.int k) := by
  unfold fE
  rw [lookup_putF, if_neg s_dp, lookup_putF, if_pos rfl]
theorem fE_length (fa : Addr) (n k : Nat) (pa : Addr) : (fE fa n k pa).lookup ("length" : Str) = some (.int n) := by
  unfold fE
  rw [lookup_putF, if_neg s_lp, lookup_putF, if_neg s_ld, lookup_putF, if_pos rfl]
theorem fE_field (fa : Addr) (n k : Nat) (pa : Addr) : (fE fa n k pa).lookup ("field" : Str) = some (.ref fa) := by
  unfold fE
  rw [lookup_putF, if_neg s_fp, lookup_putF, if_neg s_fd, lookup_putF, if_neg s_fl, lookup_putF, if_pos rfl]
theorem fE_no (fa : Addr) (n k : Nat) (pa : Addr) {x : Str} (h1 : ¬ x = "field") (h2 : ¬ x = "length") (h3 : ¬ x = "dimension") (h4 : ¬ x = "_points") : (fE fa n k pa).lookup x = none := by
  unfold fE
  rw [lookup_putF, if_neg h4, lookup_putF, if_neg h3, lookup_putF, if_neg h2, lookup_putF, if_neg h1]
  rfl
theorem fE_values (fa : Addr) (n k : Nat) (pa : Addr) : (fE fa n k pa).lookup ("_values" : Str) = none := fE_no fa n k pa (by decide +kernel) (by decide +kernel) (by decide +kernel) (by decide +kernel)
theorem fE_mended (fa : Addr) (n k : Nat) (pa : Addr) : (fE fa n k pa).lookup ("mended" : Str) = none := fE_no fa n k pa (by decide +kernel) (by decide +kernel) (by decide +kernel) (by decide +kernel)
theorem fE_corrected (fa : Addr) (n k : Nat) (pa : Addr) : (fE fa n k pa).lookup ("corrected" : Str) = none := fE_no fa n k pa (by decide +kernel) (by decide +kernel) (by decide +kernel) (by decide +kernel)
/-- an evaluation code stands at a -/
def EvalAt (K : PySem.W.Frag) (CF CE : Addr) (H : Hp) (a : Addr) (i : Fin 8) (pts : List (GF i)) (k : Nat) : Prop := ∃ dx fa pa, H a = some (.ins CE dx (fE fa pts.length k pa)) ∧ FieldAt K CF H fa i ∧ SqL K H pa (ve pts)
theorem evalS {K : PySem.W.Frag} {CF CE : Addr} {H H' : Hp} {a : Addr} {i : Fin 8} {pts : List (GF i)} {k : Nat} (s : Same H H') (h : EvalAt K CF CE H a i pts k) : EvalAt K CF CE H' a i pts k := by
  obtain ⟨dx, fa, pa, h1, h2, h3⟩ := h
  exact ⟨dx, fa, pa, s _ _ h1, fieldS s h2, s.seq h3⟩
/-- the class TooManyErrors -/
structure TooMany (K : PySem.W.Frag) (mg : Str → Option Value) (CT : Addr) : Prop where
  x : PySem.W.excIn K CT [.type "ValueError", .type "Exception", .type "BaseException", .type "object"] "ValueError.__new__" = true
  g : mg "TooManyErrors" = some (.ref CT)
  k : PySem.W.keepIn K (.ref CT) = true
  b : PySem.W.subIn K (.ref CT) (.type "BaseException") = some true
  t : PySem.W.typeIn K (.ref CT) = some (.type "type")
section
variable {P : Program} {w : World} {K : PySem.W.Frag} {mg : Str → Option Value} {base : Heap} {CF CE CI CT : Addr}

/-! ### check_points -/
abbrev s_check_points : Stmt := top 44
abbrev N_check_points : List Str := ["field", "points", "point"]
theorem sc_check_points : FnScope N_check_points ["field", "points"] (defScope s_check_points) := ⟨rfl, rfl, rfl, by decide +kernel, rfl, by decide +kernel, by decide +kernel⟩
def sp_check_points (K : PySem.W.Frag) (CF : Addr) : Sp := fun vs H Q _ => ∃ (fa l : Addr) (i : Fin 8) (pts : List (GF i)), vs = [.ref fa, .ref l] ∧ FieldAt K CF H fa i ∧ SqL K H l (ve pts) ∧ pts.Nodup ∧ 1 ≤ pts.length ∧ pts.length ≤ 100 ∧ Q .non H
theorem ok_check_points {f : Addr} {fd' : FuncData} (F : Fun K "check_points" "check_points" s_check_points f fd') (T : Txt K mg CF CE CI) : FnOk P w K mg base CX0 1 f fd' ["field", "points"] (sp_check_points K CF) := by
  refine F.ok sc_check_points (fun vs H Q E h => ?_) (fun cdv A outer s H vs Q E hr h => ?_)
  · obtain ⟨fa, l, i, pts, rfl, _⟩ := h; rfl
  · obtain ⟨fa, l, i, pts, rfl, ⟨dx, m, hf, hm⟩, hl, nd, h1, h2, k⟩ := h
    refine ⟨_, (pss_cons (ps_if (PW.pt (pw_or (pt_cmpR op_lt (pe_callB call_len_seq (by rfl) T.n_len bt_len (pa_cons (pv 1) pa_nil)) pe_int (nomark _)) (pw_or1 (pt_cmpR op_gt (pe_callB call_len_seq (by rfl) T.n_len bt_len (pa_cons (pv 1) pa_nil)) (pe_globI (by rfl) T.g_LONGEST) (nomark _))))) (pss_one ps_never) pss_nil)
      (pss_cons (ps_for PassesOwn.never rfl (pi_list (pv 1)) (pg_name (i := 2) sc_check_points.nd rfl (Or.inl rfl)) (pss_one (ps_if (PW.pt (pw_or (pt_cmpR op_lt (pv 2) pe_int (nomark _)) (pw_or1 (pt_cmpR op_ge (pv 2) (pe_fld (pv 0) rfl) (nomark _))))) (pss_one ps_never) pss_nil)))
      (pss_one (ps_if (pt_cmpR op_ne (RZ.pe_lenSetI (by rfl) T.n_len (by rfl) T.n_set (pv 1)) (pe_callB call_len_seq (by rfl) T.n_len bt_len (pa_cons (pv 1) pa_nil)) (nomark _)) (pss_one ps_never) pss_nil)))), ?_⟩
    refine ⟨_, rfl, l, _, rfl, .inl hl, _, _, rfl, rfl, _, rfl, ?_⟩
    rw [decide_eq_false (show ¬ (((ve pts).length : Nat) : Int) < 1 by rw [ve_len]; omega)]
    refine iteF ⟨_, rfl, l, _, rfl, .inl hl, _, _, rfl, rfl, _, rfl, ?_⟩
    rw [decide_eq_false (show ¬ (255 : Int) < (((ve pts).length : Nat) : Int) by rw [ve_len]; omega)]
    refine iteF ?_
    refine ⟨_, rfl, l, rfl, ⟨_, hl⟩, for_list (K := K) (a := l) (xs := ve pts) (fun j σ H' => ∃ v, σ = [some (.ref fa), some (.ref l), v] ∧ H' = H) ⟨none, rfl, rfl⟩ (fun j σ H' _ ⟨_, _, e⟩ => by rw [e]; exact hl) ?_ ?_⟩
    · rintro j x σ H' hx ⟨v, rfl, rfl⟩
      obtain ⟨a, ha, rfl⟩ := ve_get hx
      refine ⟨_, rfl, _, _, rfl, rfl, _, rfl, ?_⟩
      rw [decide_eq_false (show ¬ a.enc < 0 by have := a.enc_nonneg; omega)]
      refine iteF ⟨_, rfl, _, rfl, fa, CF, dx, _, _, rfl, hf, T.clF, T.fF_order, fF_order i m, _, _, rfl, rfl, _, rfl, ?_⟩
      rw [decide_eq_false (show ¬ ((fq i : Nat) : Int) ≤ a.enc by have := a.enc_lt; unfold fq; omega)]
      exact iteF ⟨_, rfl, rfl⟩
    · rintro σ H' ⟨v, rfl, rfl⟩
      refine ⟨_, rfl, l, pts.map GF.enc, rfl, hl, enc_nodup nd, by rw [List.length_map]; omega, _, rfl, l, _, rfl, .inl hl, rfl, _, rfl, ?_⟩
      exact iteNS (by rw [ve_len, List.length_map]) k

/-! ### EvaluationCode.__init__ -/
abbrev s_EvaluationCode___init__ : Stmt := inClass (top 45) 0
abbrev N_EvaluationCode___init__ : List Str := ["self", "field", "points", "dimension"]
theorem sc_EvaluationCode___init__ : FnScope N_EvaluationCode___init__ ["self", "field", "points", "dimension"] (defScope s_EvaluationCode___init__) := ⟨rfl, rfl, rfl, by decide +kernel, rfl, by decide +kernel, by decide +kernel⟩
def sp_E_init (K : PySem.W.Frag) (CF CE : Addr) : Sp := fun vs H Q _ => ∃ (x dx fa l : Addr) (i : Fin 8) (pts : List (GF i)) (k : Nat), vs = [.ref x, .ref fa, .ref l, .int k] ∧ H x = some (.ins CE dx []) ∧ FieldAt K CF H fa i ∧ fa ≠ x ∧ SqL K H l (ve pts) ∧ pts.Nodup ∧ 1 ≤ k ∧ k ≤ pts.length ∧ pts.length ≤ 100 ∧
  ∀ H' pa, H' x = some (.ins CE dx (fE fa pts.length k pa)) → H' pa = some (.lst (ve pts)) → (∀ b o, H b = some o → b ≠ x → H' b = some o) → Q .non H'
theorem ok_E_init {f : Addr} {fd' : FuncData} (F : Fun K "__init__" "EvaluationCode.__init__" s_EvaluationCode___init__ f fd') (T : Txt K mg CF CE CI)
    (c1 : Cal P w K mg base CX0 "check_points" ["field", "points"] 1 (sp_check_points K CF)) : FnOk P w K mg base CX0 2 f fd' ["self", "field", "points", "dimension"] (sp_E_init K CF CE) := by
  obtain ⟨f_check_points, _, ok_check_points, mg_check_points, kp_check_points, b_check_points⟩ := c1
  refine F.ok sc_EvaluationCode___init__ (fun vs H Q E h => ?_) (fun cdv A outer s H vs Q E hr h => ?_)
  · obtain ⟨x, dx, fa, l, i, pts, k, rfl, _⟩ := h; rfl
  · obtain ⟨x, dx, fa, l, i, pts, k, rfl, hx, hF, nfx, hl, nd, k1, k2, n100, kq⟩ := h
    refine ⟨_, (pss_cons (ps_expr (pe_call ok_check_points (hr.mono (by decide)) (by rfl) mg_check_points kp_check_points b_check_points .nil pass0 (pa_cons (pv 1) (pa_cons (pv 2) pa_nil))))
      (pss_cons (ps_if (PW.pt (pw_or (pt_cmpR op_lt (pv 3) pe_int (nomark _)) (pw_or1 (pt_cmpR op_gt (pv 3) (pe_callB call_len_seq (by rfl) T.n_len bt_len (pa_cons (pv 2) pa_nil)) (nomark _))))) (pss_one ps_never) pss_nil)
      (pss_cons (ps_fld (pv 0) (pv 1) rfl)
      (pss_cons (ps_fld (pv 0) (pe_callB call_len_seq (by rfl) T.n_len bt_len (pa_cons (pv 2) pa_nil)) rfl)
      (pss_cons (ps_fld (pv 0) (pv 3) rfl)
      (pss_one (ps_fld (pv 0) (pe_callTy call_list_of (by rfl) T.n_list bt_list (pa_cons (pv 2) pa_nil)) rfl))))))), ?_⟩
    refine ⟨_, rfl, _, rfl, fa, l, i, pts, rfl, hF, hl, nd, by omega, n100, ?_⟩
    refine ⟨_, rfl, _, _, rfl, rfl, _, rfl, ?_⟩
    rw [decide_eq_false (show ¬ ((k : Nat) : Int) < 1 by omega)]
    refine iteF ⟨_, rfl, _, rfl, l, _, rfl, .inl hl, _, _, rfl, rfl, _, rfl, ?_⟩
    rw [decide_eq_false (show ¬ (((ve pts).length : Nat) : Int) < (k : Nat) by rw [ve_len]; omega)]
    refine iteF ?_
    have keepL : ∀ fs, SqL K (upd H x (.ins CE dx fs)) l (ve pts) := fun fs => by
      rcases hl with (h | ⟨o, h⟩) | h
      · exact .inl (.inl (by rw [upd_ne (ne_of h hx (by intro z; cases z))]; exact h))
      · exact .inl (.inr ⟨o, by rw [upd_ne (ne_of h hx (by intro z; cases z))]; exact h⟩)
      · exact .inr h
    refine ⟨_, rfl, _, rfl, x, CE, dx, [], rfl, hx, T.clE, T.fE_field, (by show 0 < 1000; decide), ?_⟩
    refine ⟨_, rfl, l, _, rfl, .inl (keepL _), _, rfl, x, CE, dx, _, rfl, upd_same, T.clE, T.fE_length, (by show 1 < 1000; decide), ?_⟩
    rw [upd_upd]
    refine ⟨_, rfl, _, rfl, x, CE, dx, _, rfl, upd_same, T.clE, T.fE_dimension, Nat.lt_of_le_of_lt (length_putF _ _ _) (by show 1 + 1 < 1000; decide), ?_⟩
    rw [upd_upd]
    refine ⟨_, rfl, l, _, rfl, .inl (keepL _), fun pa hpa => ?_⟩
    have npx : x ≠ pa := ne_of_none upd_same hpa
    refine ⟨_, rfl, x, CE, dx, _, rfl, (by rw [upd_ne npx]; exact upd_same), T.clE, T.fE_points, Nat.lt_of_le_of_lt (length_putF _ _ _) (Nat.succ_lt_succ (Nat.lt_of_le_of_lt (length_putF _ _ _) (by show 1 + 1 < 999; decide))), ?_⟩
    refine kq _ pa ?_ (by rw [upd_ne npx.symm, upd_same]) fun b o e hb => ?_
    · rw [upd_same, ve_len]; rfl
    · rw [upd_ne hb]
      by_cases hbp : b = pa
      · rw [hbp] at e
        rw [upd_ne npx.symm, e] at hpa
        cases hpa
      · rw [upd_ne hbp, upd_ne hb]; exact e

/-! ### _values, mended -/
abbrev s_EvaluationCode__values : Stmt := inClass (top 45) 2
abbrev N_EvaluationCode__values : List Str := ["self", "poly", "point"]
theorem sc_EvaluationCode__values : FnScope N_EvaluationCode__values ["self", "poly"] (defScope s_EvaluationCode__values) := ⟨rfl, rfl, rfl, by decide +kernel, rfl, by decide +kernel, by decide +kernel⟩
def sp_values (K : PySem.W.Frag) (CF CE : Addr) : Sp := fun vs H Q _ => ∃ (ea l : Addr) (i : Fin 8) (pts : List (GF i)) (k : Nat) (A : List (GF i)), vs = [.ref ea, .ref l] ∧ EvalAt K CF CE H ea i pts k ∧ pts.length ≤ 100 ∧ SqL K H l (ve A) ∧ GL H Q (ve (pts.map (ev A)))
theorem ok_values {f : Addr} {fd' : FuncData} (F : Fun K "_values" "EvaluationCode._values" s_EvaluationCode__values f fd') (T : Txt K mg CF CE CI)
    (c1 : Cal P w K mg base CX0 "poly_evaluate" ["field", "poly", "point"] 4 (sp_poly_evaluate K CF)) : FnOk P w K mg base CX0 5 f fd' ["self", "poly"] (sp_values K CF CE) := by
  obtain ⟨f_poly_evaluate, _, ok_poly_evaluate, mg_poly_evaluate, kp_poly_evaluate, b_poly_evaluate⟩ := c1
  refine F.ok sc_EvaluationCode__values (fun vs H Q E h => ?_) (fun cdv A outer s H vs Q E hr h => ?_)
  · obtain ⟨ea, l, i, pts, k, A, rfl, _⟩ := h; rfl
  · obtain ⟨ea, l, i, pts, kd, A, rfl, ⟨dx, fa, pa, he, hF, hp⟩, n100, hl, k⟩ := h
    refine ⟨_, (pss_one (ps_ret (pe_lc (own := [("point", 2)]) rfl sc_EvaluationCode__values.nd (pi_list (pe_fld (pv 0) rfl)) (blkOk_by (own := [("point", 2)]) (N := N_EvaluationCode__values) (sc := defScope s_EvaluationCode__values) (by decide +kernel)) (fun _ _ _ _ _ => pg_name (i := 2) sc_EvaluationCode__values.nd rfl (Or.inl rfl)) (fun _ _ _ _ _ => pts_nil) (fun _ _ _ _ _ => (pe_call ok_poly_evaluate (hr.mono (by decide)) (by rfl) mg_poly_evaluate kp_poly_evaluate b_poly_evaluate .nil pass0 (pa_cons (pe_fldK K rfl (pv 0) rfl) (pa_cons (pv 1) (pa_cons (pv 2) pa_nil)))))))), ?_⟩
    refine ⟨_, rfl, ea, CE, dx, _, _, rfl, he, T.clE, T.fE_points, fE_points _ _ _ _, pa, rfl, ⟨_, hp⟩, fun D hD => ?_⟩
    refine lc_list (K := K) (a := pa) (xs := ve pts) (fun j H' => Same H H' ∧ H' D = some (.lst (ve ((pts.take j).map (ev A))))) ⟨newS hD, upd_same⟩ (fun j H' _ h => h.1.seq hp) ?_ ?_
    · rintro j x H' hx ⟨s', hD'⟩
      obtain ⟨a, ha, rfl⟩ := ve_get hx
      refine ⟨rfl, _, rfl, ea, CE, dx, _, _, rfl, s' _ _ he, T.clE, T.fE_field, fE_field _ _ _ _, _, rfl, _, rfl, fa, l, i, A, a, rfl, fieldS s' hF, s'.seq hl, fun H2 s2 => ⟨_, s2 _ _ hD', smallLt (by rw [ve_len, List.length_map, List.length_take]; omega), mutS (s'.trans s2) hD, ?_⟩⟩
      rw [upd_same, ve_snoc, List.take_add_one, ha, List.map_append]
      rfl
    · rintro H' ⟨s', hD'⟩
      rw [ve_len, List.take_length] at hD'
      exact k _ D s' hD hD'
abbrev s_EvaluationCode_mended : Stmt := inClass (top 45) 7
abbrev N_EvaluationCode_mended : List Str := ["self", "erased"]
theorem sc_EvaluationCode_mended : FnScope N_EvaluationCode_mended ["self", "erased"] (defScope s_EvaluationCode_mended) := ⟨rfl, rfl, rfl, by decide +kernel, rfl, by decide +kernel, by decide +kernel⟩
def sp_mended (K : PySem.W.Frag) (CF CE : Addr) : Sp := fun vs H Q _ => ∃ (ea : Addr) (i : Fin 8) (pts : List (GF i)) (k : Nat) (z : Int), vs = [.ref ea, .int z] ∧ EvalAt K CF CE H ea i pts k ∧ Q (.int (((pts.length : Int) - z - k) / 2)) H
theorem ok_mended {f : Addr} {fd' : FuncData} (F : Fun K "mended" "EvaluationCode.mended" s_EvaluationCode_mended f fd') (T : Txt K mg CF CE CI) : FnOk P w K mg base CX0 1 f fd' ["self", "erased"] (sp_mended K CF CE) := by
  refine F.ok sc_EvaluationCode_mended (fun vs H Q E h => ?_) (fun cdv A outer s H vs Q E hr h => ?_)
  · obtain ⟨ea, i, pts, k, z, rfl, _⟩ := h; rfl
  · obtain ⟨ea, i, pts, kd, z, rfl, ⟨dx, fa, pa, he, hF, hp⟩, k⟩ := h
    refine ⟨_, (pss_one (ps_ret (pe_op op_fdiv (pe_op op_sub (pe_op op_sub (pe_fld (pv 0) rfl) (pv 1)) (pe_fld (pv 0) rfl)) pe_int))), ?_⟩
    exact ⟨_, rfl, ea, CE, dx, _, _, rfl, he, T.clE, T.fE_length, fE_length _ _ _ _, _, rfl, _, _, rfl, rfl, _, rfl, ea, CE, dx, _, _, rfl, he, T.clE, T.fE_dimension, fE_dimension _ _ _ _, _, _, rfl, rfl, _, _, rfl, rfl, ⟨by decide, by decide⟩, k⟩

/-! ### corrected, one part -/
abbrev s_EvaluationCode_corrected : Stmt := inClass (top 45) 8
abbrev N_EvaluationCode_corrected : List Str := ["self", "received", "places", "errors", "points", "modulus", "value", "bound", "top", "bottom", "quotient", "rest", "word", "k"]
theorem sc_EvaluationCode_corrected : FnScope N_EvaluationCode_corrected ["self", "received"] (defScope s_EvaluationCode_corrected) := ⟨rfl, rfl, rfl, by decide +kernel, rfl, by decide +kernel, by decide +kernel⟩
def sp_E_corrected (K : PySem.W.Frag) (CF CE CT : Addr) : Sp := fun vs H Q E => ∃ (ea l : Addr) (i : Fin 8) (pts : List (GF i)) (k : Nat) (R : List (Option (GF i))), vs = [.ref ea, .ref l] ∧ EvalAt K CF CE H ea i pts k ∧ pts.Nodup ∧ 1 ≤ k ∧ pts.length ≤ 100 ∧ SqL K H l (vr R) ∧ R.length = pts.length ∧
  match decode pts k R with
  | some w => GL H Q (ve w)
  | none => ∀ H', Same H H' → E (.ref CT) none H'
theorem ok_E_corrected {f : Addr} {fd' : FuncData} (F : Fun K "corrected" "EvaluationCode.corrected" s_EvaluationCode_corrected f fd') (T : Txt K mg CF CE CI) (TM : TooMany K mg CT)
    (c1 : Cal P w K mg base CX0 "is_received" ["field", "length", "received"] 1 (sp_is_received K CF)) (c2 : CalM P w K mg base CX0 CE "mended" ["self", "erased"] 1 (sp_mended K CF CE))
    (c3 : Cal P w K mg base CX0 "poly_from_roots" ["field", "roots"] 5 (sp_poly_from_roots K CF)) (c4 : Cal P w K mg base CX0 "interpolate" ["field", "points", "values"] 6 (sp_interpolate K CF))
    (c5 : Cal P w K mg base CX0 "key_equation" ["field", "modulus", "value", "bound"] 6 (sp_key_equation K CF)) (c6 : Cal P w K mg base CX0 "poly_divide" ["field", "poly", "divisor"] 5 (sp_poly_divide K CF))
    (c7 : CalM P w K mg base CX0 CE "_values" ["self", "poly"] 5 (sp_values K CF CE)) (c8 : Cal P w K mg base CX0 "errors_beside" ["word", "received"] 2 (sp_errors_beside K)) : FnOk P w K mg base (L2.CX P w) 7 f fd' ["self", "received"] (sp_E_corrected K CF CE CT) := by
  obtain ⟨f_is_received, _, ok_is_received, mg_is_received, kp_is_received, b_is_received⟩ := c1
  obtain ⟨f_EvaluationCode_mended, _, ok_EvaluationCode_mended, m_EvaluationCode_mended, b_EvaluationCode_mended⟩ := c2
  obtain ⟨f_poly_from_roots, _, ok_poly_from_roots, mg_poly_from_roots, kp_poly_from_roots, b_poly_from_roots⟩ := c3
  obtain ⟨f_interpolate, _, ok_interpolate, mg_interpolate, kp_interpolate, b_interpolate⟩ := c4
  obtain ⟨f_key_equation, _, ok_key_equation, mg_key_equation, kp_key_equation, b_key_equation⟩ := c5
  obtain ⟨f_poly_divide, _, ok_poly_divide, mg_poly_divide, kp_poly_divide, b_poly_divide⟩ := c6
  obtain ⟨f_EvaluationCode__values, _, ok_EvaluationCode__values, m_EvaluationCode__values, b_EvaluationCode__values⟩ := c7
  obtain ⟨f_errors_beside, _, ok_errors_beside, mg_errors_beside, kp_errors_beside, b_errors_beside⟩ := c8
  refine F.okX sc_EvaluationCode_corrected (fun vs H Q E h => ?_) (fun cdv A outer s H vs Q E hr h => ?_)
  · obtain ⟨ea, l, i, pts, k, R, rfl, _⟩ := h; rfl
  · obtain ⟨ea, l, i, pts, kd, R, rfl, hE, nd, hk1, n100, hl, hR, kk⟩ := h
    have hE' := hE
    obtain ⟨dx, fa, pa, he, hF, hp⟩ := hE'
    refine ⟨_, (pss_cons (ps_if (pt_not (pt_val (pe_call ok_is_received (hr.mono (by decide)) (by rfl) mg_is_received kp_is_received b_is_received .nil pass0 (pa_cons (pe_fld (pv 0) rfl) (pa_cons (pe_fld (pv 0) rfl) (pa_cons (pv 1) pa_nil)))))) (pss_one ps_never) pss_nil)
      (pss_cons (ps_setLc (i := 2) (own := [("k", 13)]) rfl sc_EvaluationCode_corrected.nd rfl rfl (sw_true rfl rfl rfl (by decide +kernel)) (pi_range1 (by rfl) T.n_range (pa_cons (pe_fld (pv 0) rfl) pa_nil)) (blkOk_by (own := [("k", 13)]) (N := N_EvaluationCode_corrected) (sc := defScope s_EvaluationCode_corrected) (by decide +kernel)) (fun _ _ _ _ _ => pg_name (i := 13) sc_EvaluationCode_corrected.nd rfl (Or.inl rfl)) (fun _ _ _ _ _ => pts_one (pt_cmpR op_notN (pe_ix (ix_listK K rfl) (pv 1) (pv 13) (fun _ _ => rfl)) pe_non (nomark _))) (fun _ _ _ _ _ => (pv 13)))
      (pss_cons (ps_set (i := 3) sc_EvaluationCode_corrected.nd rfl (Or.inl rfl) (pe_meth (pv 0) T.clE m_EvaluationCode_mended ok_EvaluationCode_mended (hr.mono (by decide)) b_EvaluationCode_mended .nil pass0 (pa_cons (pe_op op_sub (pe_fld (pv 0) rfl) (pe_callB call_len_seq (by rfl) T.n_len bt_len (pa_cons (pv 2) pa_nil))) pa_nil)))
      (pss_cons (ps_if (pt_cmpR op_lt (pv 3) pe_int (nomark _)) (pss_one (ps_raise rfl (takes_of rfl rfl rfl rfl) (pmk_own PySem.F.excBase_ValueError TM.x TM.g TM.k (raises_own TM.b TM.t) rfl))) pss_nil)
      (pss_cons (ps_setLc (i := 4) (own := [("k", 13)]) rfl sc_EvaluationCode_corrected.nd rfl rfl (sw_true rfl rfl rfl (by decide +kernel)) (pi_list (pv 2)) (blkOk_by (own := [("k", 13)]) (N := N_EvaluationCode_corrected) (sc := defScope s_EvaluationCode_corrected) (by decide +kernel)) (fun _ _ _ _ _ => pg_name (i := 13) sc_EvaluationCode_corrected.nd rfl (Or.inl rfl)) (fun _ _ _ _ _ => pts_nil) (fun _ _ _ _ _ => (pe_ix (ix_listK K rfl) (pe_fldK K rfl (pv 0) rfl) (pv 13) (fun _ _ => rfl))))
      (pss_cons (ps_set (i := 5) sc_EvaluationCode_corrected.nd rfl (Or.inl rfl) (pe_call ok_poly_from_roots (hr.mono (by decide)) (by rfl) mg_poly_from_roots kp_poly_from_roots b_poly_from_roots .nil pass0 (pa_cons (pe_fld (pv 0) rfl) (pa_cons (pv 4) pa_nil))))
      (pss_cons (ps_set (i := 6) sc_EvaluationCode_corrected.nd rfl (Or.inl rfl) (pe_call ok_interpolate (hr.mono (by decide)) (by rfl) mg_interpolate kp_interpolate b_interpolate .nil pass0 (pa_cons (pe_fld (pv 0) rfl) (pa_cons (pv 4) (pa_cons (pe_lc (own := [("k", 13)]) rfl sc_EvaluationCode_corrected.nd (pi_list (pv 2)) (blkOk_by (own := [("k", 13)]) (N := N_EvaluationCode_corrected) (sc := defScope s_EvaluationCode_corrected) (by decide +kernel)) (fun _ _ _ _ _ => pg_name (i := 13) sc_EvaluationCode_corrected.nd rfl (Or.inl rfl)) (fun _ _ _ _ _ => pts_nil) (fun _ _ _ _ _ => (pe_ix (ix_listK K rfl) (pv 1) (pv 13) (fun _ _ => rfl)))) pa_nil)))))
      (pss_cons (ps_set (i := 7) sc_EvaluationCode_corrected.nd rfl (Or.inl rfl) (pe_op op_fdiv (pe_op op_add (pe_op op_add (pe_callB call_len_seq (by rfl) T.n_len bt_len (pa_cons (pv 2) pa_nil)) (pe_fld (pv 0) rfl)) pe_int) pe_int))
      (pss_cons (ps_asg (pe_call ok_key_equation (hr.mono (by decide)) (by rfl) mg_key_equation kp_key_equation b_key_equation .nil pass0 (pa_cons (pe_fld (pv 0) rfl) (pa_cons (pv 5) (pa_cons (pv 6) (pa_cons (pv 7) pa_nil))))) (pg_tup (by rfl) (pgs_cons (pg_name (i := 8) sc_EvaluationCode_corrected.nd rfl (Or.inl rfl)) (pgs_cons (pg_name (i := 9) sc_EvaluationCode_corrected.nd rfl (Or.inl rfl)) pgs_nil))))
      (pss_cons (ps_asg (pe_call ok_poly_divide (hr.mono (by decide)) (by rfl) mg_poly_divide kp_poly_divide b_poly_divide .nil pass0 (pa_cons (pe_fld (pv 0) rfl) (pa_cons (pv 8) (pa_cons (pv 9) pa_nil)))) (pg_tup (by rfl) (pgs_cons (pg_name (i := 10) sc_EvaluationCode_corrected.nd rfl (Or.inl rfl)) (pgs_cons (pg_name (i := 11) sc_EvaluationCode_corrected.nd rfl (Or.inl rfl)) pgs_nil))))
      (pss_cons (ps_if (PW.pt (pw_and (pt_cmpR op_eq (pe_callB call_len_seq (by rfl) T.n_len bt_len (pa_cons (pv 11) pa_nil)) pe_int (nomark _)) (pw_and1 (pt_cmpR op_le (pe_callB call_len_seq (by rfl) T.n_len bt_len (pa_cons (pv 10) pa_nil)) (pe_fld (pv 0) rfl) (nomark _))))) (pss_cons (ps_set (i := 12) sc_EvaluationCode_corrected.nd rfl (Or.inl rfl) (pe_meth (pv 0) T.clE m_EvaluationCode__values ok_EvaluationCode__values (hr.mono (by decide)) b_EvaluationCode__values .nil pass0 (pa_cons (pv 10) pa_nil)))
      (pss_one (ps_if (pt_cmpR op_le (pe_call ok_errors_beside (hr.mono (by decide)) (by rfl) mg_errors_beside kp_errors_beside b_errors_beside .nil pass0 (pa_cons (pv 12) (pa_cons (pv 1) pa_nil))) (pv 3) (nomark _)) (pss_one (ps_ret (pv 12))) pss_nil))) pss_nil)
      (pss_one (ps_raise rfl (takes_of rfl rfl rfl rfl) (pmk_own PySem.F.excBase_ValueError TM.x TM.g TM.k (raises_own TM.b TM.t) rfl)))))))))))))), ?_⟩
    refine ⟨_, rfl, ea, CE, dx, _, _, rfl, he, T.clE, T.fE_field, fE_field _ _ _ _, _, rfl, ea, CE, dx, _, _, rfl, he, T.clE, T.fE_length, fE_length _ _ _ _, _, rfl, fa, l, i, R, by rw [hR]; rfl, hF, hl, _, rfl, ?_⟩
    refine iteF ?_
    -- places = [k for k in range(self.length) if received[k] is not None]
    refine ⟨_, rfl, ea, CE, dx, _, _, rfl, he, T.clE, T.fE_length, fE_length _ _ _ _, _, rfl, by omega, by omega, fun D hD => ?_⟩
    rw [Int.toNat_natCast]
    refine lc_range (fun j H' => H' = upd H D (.lst (vi ((plsN R j).map fun t => ((t : Nat) : Int))))) rfl ?_ ?_
    · rintro j H' hj rfl
      have ej : (0 : Int) + (j : Nat) = ((j : Nat) : Int) := by omega
      have hp1 := plsN_succ R j
      refine ⟨rfl, _, rfl, _, rfl, l, _, _, _, rfl, rfl, (newS hD).seq hl, at_of ej (vr_at (by omega)), rfl, _, rfl, ?_⟩
      by_cases hkn : known R j = true
      · have e : (!decide (vo (R.getD j none) = V.non)) = true := by
          unfold known at hkn
          cases hc : R.getD j none with
          | none => rw [hc] at hkn; cases hkn
          | some c => simp [vo]
        rw [e]
        refine iteT ⟨_, rfl, _, upd_same, smallLt (by rw [vi_len, List.length_map]; have := plsN_length R j; omega), ?_⟩
        rw [upd_upd, hp1, if_pos hkn, List.map_append, ej, vi_snoc]
        rfl
      · have e : (!decide (vo (R.getD j none) = V.non)) = false := by
          unfold known at hkn
          cases hc : R.getD j none with
          | none => simp [vo]
          | some c => rw [hc] at hkn; exact absurd rfl hkn
        rw [e]
        refine iteF ?_
        rw [hp1, if_neg hkn, List.append_nil]
    · rintro H1 rfl
      have epl : plsN R pts.length = pls R := by unfold pls; rw [hR]
      rw [epl]
      have s1 := newS (o := .lst (vi ((pls R).map fun t => ((t : Nat) : Int)))) hD
      have hD1 : upd H D (.lst (vi ((pls R).map fun t => ((t : Nat) : Int)))) D = _ := upd_same
      generalize hH1 : upd H D (.lst (vi ((pls R).map fun t => ((t : Nat) : Int)))) = H1 at s1 hD1
      have hpm : (pls R).length ≤ pts.length := by have := plsN_length R R.length; unfold pls; omega
      have plen : (vi ((pls R).map fun t => ((t : Nat) : Int))).length = (pls R).length := by rw [vi_len, List.length_map]
      -- errors = self.mended(self.length - len(places))
      refine ⟨_, rfl, ea, dx, _, rfl, s1 _ _ he, fE_mended _ _ _ _, _, rfl, ea, CE, dx, _, _, rfl, s1 _ _ he, T.clE, T.fE_length, fE_length _ _ _ _, _, rfl, D, _, rfl, .inl (SqL.of hD1), _, _, rfl, rfl, ea, i, pts, kd, _, rfl, evalS s1 hE, ?_⟩
      have ee : ((pts.length : Int) - ((pts.length : Nat) - ((vi ((pls R).map fun t => ((t : Nat) : Int))).length : Nat)) - (kd : Nat)) / 2 = (((pls R).length : Int) - (kd : Nat)) / 2 := by
        rw [plen]
        congr 1
        omega
      rw [ee]
      refine ⟨_, rfl, _, _, rfl, rfl, _, rfl, ?_⟩
      by_cases hlt : (pls R).length < kd
      · rw [decide_eq_true (show (((pls R).length : Int) - (kd : Nat)) / 2 < 0 by omega)]
        refine iteT ?_
        have hd : decode pts kd R = none := if_pos hlt
        rw [hd] at kk
        exact kk _ s1
      rw [decide_eq_false (show ¬ (((pls R).length : Int) - (kd : Nat)) / 2 < 0 by omega)]
      refine iteF ?_
      -- points = [self._points[k] for k in places]
      refine ⟨_, rfl, D, rfl, ⟨_, SqL.of hD1⟩, fun D2 hD2 => ?_⟩
      refine lc_list (K := K) (a := D) (xs := vi ((pls R).map fun t => ((t : Nat) : Int))) (fun j H' => H' = upd H1 D2 (.lst (ve (((pls R).take j).map fun t => pts.getD t 0)))) rfl (fun j H' _ e => by rw [e]; exact SqL.of (newS hD2 _ _ hD1)) ?_ ?_
      · rintro j x H' hx rfl
        obtain ⟨z, hz, rfl⟩ := vi_get hx
        rw [List.getElem?_map] at hz
        cases hq : (pls R)[j]? with
        | none => rw [hq] at hz; cases hz
        | some t =>
          rw [hq] at hz
          have ez : ((t : Nat) : Int) = z := Option.some.inj hz
          subst ez
          have htl : t < pts.length := by rw [← hR]; exact (mem_plsN (List.mem_of_getElem? hq)).1
          have u := newS (o := .lst (ve (((pls R).take j).map fun t => pts.getD t 0))) hD2
          refine ⟨rfl, _, rfl, ea, CE, dx, _, _, rfl, (s1.trans u) _ _ he, T.clE, T.fE_points, fE_points _ _ _ _, _, rfl, pa, _, _, _, rfl, rfl, (s1.trans u).seq hp, at_nat (ve_at htl), _, upd_same, smallLt (by rw [ve_len, List.length_map, List.length_take]; omega), ?_⟩
          rw [upd_upd, ve_snoc, List.take_add_one, hq, List.map_append]
          rfl
      · rintro H2 rfl
        rw [plen, List.take_length]
        have ex : ((pls R).map fun t => pts.getD t 0) = xsOf pts R := rfl
        rw [ex]
        have s12 := newS (o := .lst (ve (xsOf pts R))) hD2
        have hD22 : upd H1 D2 (.lst (ve (xsOf pts R))) D2 = _ := upd_same
        generalize hH2 : upd H1 D2 (.lst (ve (xsOf pts R))) = H2 at s12 hD22
        have s2 := s1.trans s12
        have xl := xsOf_length pts R
        have yl := ysOf_length R
        have xnd := xsOf_nodup nd hR
        -- modulus = poly_from_roots(self.field, points)
        refine ⟨_, rfl, ea, CE, dx, _, _, rfl, s2 _ _ he, T.clE, T.fE_field, fE_field _ _ _ _, _, rfl, fa, D2, i, xsOf pts R, rfl, fieldS s2 hF, SqL.of hD22, by omega, fun H3 p3 s23 n3 h3 => ?_⟩
        have s3 := s2.trans s23
        -- value = interpolate(self.field, points, [received[k] for k in places])
        refine ⟨_, rfl, ea, CE, dx, _, _, rfl, s3 _ _ he, T.clE, T.fE_field, fE_field _ _ _ _, _, rfl, _, rfl, D, rfl, ⟨_, SqL.of (s23 _ _ (s12 _ _ hD1))⟩, fun D4 hD4 => ?_⟩
        refine lc_list (K := K) (a := D) (xs := vi ((pls R).map fun t => ((t : Nat) : Int))) (fun j H' => H' = upd H3 D4 (.lst (ve (((pls R).take j).map fun t => (R.getD t none).getD 0)))) rfl (fun j H' _ e => by rw [e]; exact SqL.of (newS hD4 _ _ (s23 _ _ (s12 _ _ hD1)))) ?_ ?_
        · rintro j x H' hx rfl
          obtain ⟨z, hz, rfl⟩ := vi_get hx
          rw [List.getElem?_map] at hz
          cases hq : (pls R)[j]? with
          | none => rw [hq] at hz; cases hz
          | some t =>
            rw [hq] at hz
            have ez : ((t : Nat) : Int) = z := Option.some.inj hz
            subst ez
            obtain ⟨htl, htk⟩ := mem_plsN (List.mem_of_getElem? hq)
            have u := newS (o := .lst (ve (((pls R).take j).map fun t => (R.getD t none).getD 0))) hD4
            have ev' : vo (R.getD t none) = V.int ((R.getD t none).getD 0).enc := by
              unfold known at htk
              cases hc : R.getD t none with
              | none => rw [hc] at htk; cases htk
              | some c => rfl
            refine ⟨rfl, _, rfl, _, rfl, l, _, _, _, rfl, rfl, (s3.trans u).seq hl, at_nat (vr_at htl), _, upd_same, smallLt (by rw [ve_len, List.length_map, List.length_take]; omega), ?_⟩
            rw [upd_upd, ev', ve_snoc, List.take_add_one, hq, List.map_append]
            rfl
        · rintro H4 rfl
          rw [plen, List.take_length]
          have ey : ((pls R).map fun t => (R.getD t none).getD 0) = ysOf R := rfl
          rw [ey]
          have s34 := newS (o := .lst (ve (ysOf R))) hD4
          have hD44 : upd H3 D4 (.lst (ve (ysOf R))) D4 = _ := upd_same
          generalize hH4 : upd H3 D4 (.lst (ve (ysOf R))) = H4 at s34 hD44
          have s4 := s3.trans s34
          refine ⟨fa, D2, D4, i, xsOf pts R, ysOf R, rfl, fieldS s4 hF, SqL.of (s34 _ _ (s23 _ _ hD22)), SqL.of hD44, xnd, by omega, by omega, fun H5 p5 s45 n5 h5 => ?_⟩
          have s5 := s4.trans s45
          have hD5 := s45 _ _ (s34 _ _ (s23 _ _ (s12 _ _ hD1)))
          -- bound = (len(places) + self.dimension + 1) // 2
          refine ⟨_, rfl, D, _, rfl, .inl (SqL.of hD5), _, rfl, ea, CE, dx, _, _, rfl, s5 _ _ he, T.clE, T.fE_dimension, fE_dimension _ _ _ _, _, _, rfl, rfl, _, _, rfl, rfl, _, _, rfl, rfl, ⟨by decide, by decide⟩, ?_⟩
          have eb : ((((vi ((pls R).map fun t => ((t : Nat) : Int))).length : Nat) : Int) + (kd : Nat) + 1) / 2 = ((((pls R).length + kd + 1) / 2 : Nat) : Int) := by rw [plen]; omega
          simp only [eb]
          -- top, bottom = key_equation(self.field, modulus, value, bound)
          have hbd : ((pls R).length + kd + 1) / 2 ≤ (xsOf pts R).length := by omega
          refine ⟨_, rfl, ea, CE, dx, _, _, rfl, s5 _ _ he, T.clE, T.fE_field, fE_field _ _ _ _, _, rfl, _, rfl, _, rfl, fa, p3, p5, i, froots (xsOf pts R), interp (xsOf pts R) (ysOf R), xsOf pts R, ysOf R, ((pls R).length + kd + 1) / 2, rfl, fieldS s5 hF, SqL.of (s45 _ _ (s34 _ _ h3)), SqL.of h5, by omega,
            start_inv xnd hbd, fun H6 t6 a6 b6 s56 h6 ha6 hb6 => ?_⟩
          refine ⟨t6, _, rfl, SqT.of h6, rfl, _, _, rfl, _, _, rfl, rfl, ?_⟩
          have s6 := s5.trans s56
          have KF := key_facts (ys := ysOf R) xnd hbd
          have eT : keyTop (froots (xsOf pts R)) (interp (xsOf pts R) (ysOf R)) (((pls R).length + kd + 1) / 2) = decTop pts kd R := rfl
          have eB : keyBottom (froots (xsOf pts R)) (interp (xsOf pts R) (ysOf R)) (((pls R).length + kd + 1) / 2) = decBot pts kd R := rfl
          rw [eT, eB] at KF
          rw [eT] at ha6
          rw [eB] at hb6
          have lT := KF.lT
          have lB := KF.lB
          -- quotient, rest = poly_divide(self.field, top, bottom)
          refine ⟨_, rfl, ea, CE, dx, _, _, rfl, s6 _ _ he, T.clE, T.fE_field, fE_field _ _ _ _, _, rfl, _, rfl, fa, a6, b6, i, decTop pts kd R, decBot pts kd R, rfl, fieldS s6 hF, SqL.of ha6, SqL.of hb6, KF.tB, KF.ne, by omega, by omega, fun H7 t7 a7 b7 s67 h7 ha7 hb7 => ?_⟩
          refine ⟨t7, _, rfl, SqT.of h7, rfl, _, _, rfl, _, _, rfl, rfl, ?_⟩
          have s7 := s6.trans s67
          have eQ : pdiv (decTop pts kd R) (decBot pts kd R) = decQ pts kd R := rfl
          rw [eQ] at ha7 hb7
          have noWay : ¬ ((decQ pts kd R).2.length = 0 ∧ (decQ pts kd R).1.length ≤ kd ∧ errs (decW pts kd R) R ≤ ((pls R).length - kd) / 2) → ∀ H', Same H H' → E (.ref CT) none H' := fun hn => by
            have hd : decode pts kd R = none := by unfold decode; rw [if_neg hlt, if_neg hn]
            rw [hd] at kk
            exact kk
          -- if len(rest) == 0 and len(quotient) <= self.dimension
          refine ⟨_, rfl, b7, _, rfl, .inl (SqL.of hb7), rfl, _, rfl, ?_⟩
          by_cases hr0 : (decQ pts kd R).2.length = 0
          · rw [decide_eq_true (show V.int (((ve (decQ pts kd R).2).length : Nat) : Int) = V.int 0 by rw [ve_len, hr0]; rfl)]
            refine iteT ⟨_, rfl, a7, _, rfl, .inl (SqL.of ha7), _, rfl, ea, CE, dx, _, _, rfl, s7 _ _ he, T.clE, T.fE_dimension, fE_dimension _ _ _ _, _, _, rfl, rfl, _, rfl, ?_⟩
            by_cases hq : (decQ pts kd R).1.length ≤ kd
            · rw [decide_eq_true (show (((ve (decQ pts kd R).1).length : Nat) : Int) ≤ ((kd : Nat) : Int) by rw [ve_len]; omega)]
              -- word = self._values(quotient)
              refine iteT ⟨_, rfl, ea, dx, _, rfl, s7 _ _ he, fE_values _ _ _ _, _, rfl, ea, a7, i, pts, kd, _, rfl, evalS s7 hE, n100, SqL.of ha7, fun H8 p8 s78 n8 h8 => ?_⟩
              have s8 := s7.trans s78
              -- if errors_beside(word, received) <= errors: return word
              refine ⟨_, rfl, _, rfl, p8, l, i, _, R, rfl, SqL.of h8, s8.seq hl, by rw [List.length_map]; omega, by rw [List.length_map]; omega, ?_⟩
              have eW : pts.map (ev (decQ pts kd R).1) = decW pts kd R := rfl
              rw [eW] at h8 ⊢
              refine ⟨_, rfl, _, _, rfl, rfl, _, rfl, ?_⟩
              by_cases herr : errs (decW pts kd R) R ≤ ((pls R).length - kd) / 2
              · rw [decide_eq_true (show ((errs (decW pts kd R) R : Nat) : Int) ≤ (((pls R).length : Int) - (kd : Nat)) / 2 by omega)]
                have hd : decode pts kd R = some (decW pts kd R) := by unfold decode; rw [if_neg hlt, if_pos ⟨hr0, hq, herr⟩]
                rw [hd] at kk
                exact iteT ⟨_, rfl, kk _ p8 s8 (s7.free n8) h8⟩
              · rw [decide_eq_false (show ¬ ((errs (decW pts kd R) R : Nat) : Int) ≤ (((pls R).length : Int) - (kd : Nat)) / 2 by omega)]
                exact iteF (noWay (fun z => herr z.2.2) _ s8)
            · rw [decide_eq_false (show ¬ (((ve (decQ pts kd R).1).length : Nat) : Int) ≤ ((kd : Nat) : Int) by rw [ve_len]; omega)]
              exact iteF (noWay (fun z => hq z.2.1) _ s7)
          · rw [decide_eq_false (show ¬ V.int (((ve (decQ pts kd R).2).length : Nat) : Int) = V.int 0 by rw [ve_len]; intro z; injection z with z; omega)]
            exact iteF (iteF (noWay (fun z => hr0 z.1) _ s7))
end
end NW

set_option Elab.async false
set_option linter.all false
set_option maxRecDepth 100000
set_option maxHeartbeats 4000000
namespace NW
open PySem L2 GP
/-! ### the attributes of the interleaved code -/
def fI (ea fa : Addr) (d n : Nat) (bm bf : Int) : List (Str × V) := putF "burst_filled" (.int bf) (putF "burst_mended" (.int bm) (putF "length" (.int (d * n : Nat)) (putF "field" (.ref fa) (putF "depth" (.int d) (putF "code" (.ref ea) [])))))
theorem t_cd : ¬ (("code" : Str) = "depth") := by decide +kernel
theorem t_cf : ¬ (("code" : Str) = "field") := by decide +kernel
theorem t_cl : ¬ (("code" : Str) = "length") := by decide +kernel
theorem t_cm : ¬ (("code" : Str) = "burst_mended") := by decide +kernel
theorem t_cb : ¬ (("code" : Str) = "burst_filled") := by decide +kernel
theorem t_df : ¬ (("depth" : Str) = "field") := by decide +kernel
theorem t_dl : ¬ (("depth" : Str) = "length") := by decide +kernel
theorem t_dm : ¬ (("depth" : Str) = "burst_mended") := by decide +kernel
theorem t_db : ¬ (("depth" : Str) = "burst_filled") := by decide +kernel
theorem t_fm : ¬ (("field" : Str) = "burst_mended") := by decide +kernel
theorem t_fb : ¬ (("field" : Str) = "burst_filled") := by decide +kernel
theorem t_lm : ¬ (("length" : Str) = "burst_mended") := by decide +kernel
theorem t_lb : ¬ (("length" : Str) = "burst_filled") := by decide +kernel
section
variable (ea fa : Addr) (d n : Nat) (bm bf : Int)
theorem fI_length : (fI ea fa d n bm bf).lookup ("length" : Str) = some (.int (d * n : Nat)) := by
  unfold fI
  rw [lookup_putF, if_neg t_lb, lookup_putF, if_neg t_lm, lookup_putF, if_pos rfl]
theorem fI_field : (fI ea fa d n bm bf).lookup ("field" : Str) = some (.ref fa) := by
  unfold fI
  rw [lookup_putF, if_neg t_fb, lookup_putF, if_neg t_fm, lookup_putF, if_neg s_fl, lookup_putF, if_pos rfl]
theorem fI_depth : (fI ea fa d n bm bf).lookup ("depth" : Str) = some (.int d) := by
  unfold fI
  rw [lookup_putF, if_neg t_db, lookup_putF, if_neg t_dm, lookup_putF, if_neg t_dl, lookup_putF, if_neg t_df, lookup_putF, if_pos rfl]
theorem fI_code : (fI ea fa d n bm bf).lookup ("code" : Str) = some (.ref ea) := by
  unfold fI
  rw [lookup_putF, if_neg t_cb, lookup_putF, if_neg t_cm, lookup_putF, if_neg t_cl, lookup_putF, if_neg t_cf, lookup_putF, if_neg t_cd, lookup_putF, if_pos rfl]
theorem fI_corrected : (fI ea fa d n bm bf).lookup ("corrected" : Str) = none := by
  unfold fI
  rw [lookup_putF, if_neg (by decide +kernel), lookup_putF, if_neg (by decide +kernel), lookup_putF, if_neg (by decide +kernel), lookup_putF, if_neg (by decide +kernel), lookup_putF, if_neg (by decide +kernel), lookup_putF, if_neg (by decide +kernel)]
  rfl
end
/-- an interleaved code stands at a -/
def InterAt (K : PySem.W.Frag) (CF CE CI : Addr) (H : Hp) (a : Addr) (i : Fin 8) (pts : List (GF i)) (k d : Nat) : Prop := ∃ dx ea fa bm bf, H a = some (.ins CI dx (fI ea fa d pts.length bm bf)) ∧ FieldAt K CF H fa i ∧ EvalAt K CF CE H ea i pts k
theorem interS {K : PySem.W.Frag} {CF CE CI : Addr} {H H' : Hp} {a : Addr} {i : Fin 8} {pts : List (GF i)} {k d : Nat} (s : Same H H') (h : InterAt K CF CE CI H a i pts k d) : InterAt K CF CE CI H' a i pts k d := by
  obtain ⟨dx, ea, fa, bm, bf, h1, h2, h3⟩ := h
  exact ⟨dx, ea, fa, bm, bf, s _ _ h1, fieldS s h2, evalS s h3⟩
section
variable {P : Program} {w : World} {K : PySem.W.Frag} {mg : Str → Option Value} {base : Heap} {CF CE CI CT : Addr}

/-! ### InterleavedCode.__init__ -/
abbrev s_InterleavedCode___init__ : Stmt := inClass (top 27) 0
abbrev N_InterleavedCode___init__ : List Str := ["self", "code", "depth"]
theorem sc_InterleavedCode___init__ : FnScope N_InterleavedCode___init__ ["self", "code", "depth"] (defScope s_InterleavedCode___init__) := ⟨rfl, rfl, rfl, by decide +kernel, rfl, by decide +kernel, by decide +kernel⟩
def sp_I_init (K : PySem.W.Frag) (CF CE CI : Addr) : Sp := fun vs H Q _ => ∃ (x dx ea : Addr) (i : Fin 8) (pts : List (GF i)) (k d : Nat), vs = [.ref x, .ref ea, .int d] ∧ H x = some (.ins CI dx []) ∧ EvalAt K CF CE H ea i pts k ∧ ea ≠ x ∧ 1 ≤ d ∧ d * pts.length ≤ 255 ∧ d ≤ 1000 ∧
  ∀ H' fa bm bf, H' x = some (.ins CI dx (fI ea fa d pts.length bm bf)) → FieldAt K CF H fa i → (∀ b o, H b = some o → b ≠ x → H' b = some o) → Q .non H'
theorem ok_I_init {f : Addr} {fd' : FuncData} (F : Fun K "__init__" "InterleavedCode.__init__" s_InterleavedCode___init__ f fd') (T : Txt K mg CF CE CI) : FnOk P w K mg base CX0 1 f fd' ["self", "code", "depth"] (sp_I_init K CF CE CI) := by
  refine F.ok sc_InterleavedCode___init__ (fun vs H Q E h => ?_) (fun cdv A outer s H vs Q E hr h => ?_)
  · obtain ⟨x, dx, ea, i, pts, k, d, rfl, _⟩ := h; rfl
  · obtain ⟨x, dx, ea, i, pts, kd, d, rfl, hx, ⟨de, fa, pa, he, hF, hp⟩, nex, hd1, hd2, hd3, k⟩ := h
    have hee : ∀ fs, upd H x (.ins CI dx fs) ea = some (.ins CE de (fE fa pts.length kd pa)) := fun fs => by rw [upd_ne nex]; exact he
    refine ⟨_, (pss_cons (ps_if (PW.pt (pw_or (pt_cmpR op_lt (pv 2) pe_int (nomark _)) (pw_or1 (pt_cmpR op_gt (pe_op op_mul (pv 2) (pe_fld (pv 1) rfl)) pe_int (nomark _))))) (pss_one ps_never) pss_nil)
      (pss_cons (ps_fld (pv 0) (pv 1) rfl)
      (pss_cons (ps_fld (pv 0) (pv 2) rfl)
      (pss_cons (ps_fld (pv 0) (pe_fld (pv 1) rfl) rfl)
      (pss_cons (ps_fld (pv 0) (pe_op op_mul (pv 2) (pe_fld (pv 1) rfl)) rfl)
      (pss_cons (ps_fld (pv 0) (pe_op op_mul (pv 2) (pe_op op_fdiv (pe_op op_sub (pe_fld (pv 1) rfl) (pe_fld (pv 1) rfl)) pe_int)) rfl)
      (pss_one (ps_fld (pv 0) (pe_op op_mul (pv 2) (pe_op op_sub (pe_fld (pv 1) rfl) (pe_fld (pv 1) rfl))) rfl)))))))), ?_⟩
    refine ⟨_, rfl, _, _, rfl, rfl, _, rfl, ?_⟩
    rw [decide_eq_false (show ¬ ((d : Nat) : Int) < 1 by omega)]
    refine iteF ⟨_, rfl, _, rfl, ea, CE, de, _, _, rfl, he, T.clE, T.fE_length, fE_length _ _ _ _, _, _, rfl, rfl, .inl ⟨by omega, by omega⟩, _, _, rfl, rfl, _, rfl, ?_⟩
    rw [decide_eq_false (show ¬ (255 : Int) < ((d : Nat) : Int) * (pts.length : Nat) by rw [← Int.natCast_mul]; omega)]
    refine iteF ?_
    refine ⟨_, rfl, _, rfl, x, CI, dx, [], rfl, hx, T.clI, T.fI_code, (by show 0 < 1000; decide), ?_⟩
    refine ⟨_, rfl, _, rfl, x, CI, dx, _, rfl, upd_same, T.clI, T.fI_depth, (by show 1 < 1000; decide), ?_⟩
    rw [upd_upd]
    refine ⟨_, rfl, ea, CE, de, _, _, rfl, hee _, T.clE, T.fE_field, fE_field _ _ _ _, _, rfl, x, CI, dx, _, rfl, upd_same, T.clI, T.fI_field, Nat.lt_of_le_of_lt (length_putF _ _ _) (by show 1 + 1 < 1000; decide), ?_⟩
    rw [upd_upd]
    refine ⟨_, rfl, _, rfl, ea, CE, de, _, _, rfl, hee _, T.clE, T.fE_length, fE_length _ _ _ _, _, _, rfl, rfl, .inl ⟨by omega, by omega⟩, _, rfl, x, CI, dx, _, rfl, upd_same, T.clI, T.fI_length, ?_, ?_⟩
    · exact Nat.lt_of_le_of_lt (length_putF _ _ _) (Nat.succ_lt_succ (Nat.lt_of_le_of_lt (length_putF _ _ _) (by show 1 + 1 < 999; decide)))
    rw [upd_upd]
    refine ⟨_, rfl, _, rfl, ea, CE, de, _, _, rfl, hee _, T.clE, T.fE_length, fE_length _ _ _ _, _, rfl, ea, CE, de, _, _, rfl, hee _, T.clE, T.fE_dimension, fE_dimension _ _ _ _, _, _, rfl, rfl, _, _, rfl, rfl, ⟨by decide, by decide⟩, _, _, rfl, rfl, .inl ⟨by omega, by omega⟩, _, rfl, x, CI, dx, _, rfl, upd_same, T.clI, T.fI_burst_mended, ?_, ?_⟩
    · exact Nat.lt_of_le_of_lt (length_putF _ _ _) (Nat.succ_lt_succ (Nat.lt_of_le_of_lt (length_putF _ _ _) (Nat.succ_lt_succ (Nat.lt_of_le_of_lt (length_putF _ _ _) (by show 1 + 1 < 998; decide)))))
    rw [upd_upd]
    refine ⟨_, rfl, _, rfl, ea, CE, de, _, _, rfl, hee _, T.clE, T.fE_length, fE_length _ _ _ _, _, rfl, ea, CE, de, _, _, rfl, hee _, T.clE, T.fE_dimension, fE_dimension _ _ _ _, _, _, rfl, rfl, _, _, rfl, rfl, .inl ⟨by omega, by omega⟩, _, rfl, x, CI, dx, _, rfl, upd_same, T.clI, T.fI_burst_filled, ?_, ?_⟩
    · exact Nat.lt_of_le_of_lt (length_putF _ _ _) (Nat.succ_lt_succ (Nat.lt_of_le_of_lt (length_putF _ _ _) (Nat.succ_lt_succ (Nat.lt_of_le_of_lt (length_putF _ _ _) (Nat.succ_lt_succ (Nat.lt_of_le_of_lt (length_putF _ _ _) (by show 1 + 1 < 997; decide)))))))
    rw [upd_upd]
    refine k _ fa ((d : Int) * (((pts.length : Int) - (kd : Nat)) / 2)) ((d : Int) * ((pts.length : Int) - (kd : Nat))) ?_ hF fun b o e hb => by rw [upd_ne hb]; exact e
    rw [upd_same]
    unfold fI
    rw [Int.natCast_mul]

/-! ### corrected, all parts -/
abbrev s_InterleavedCode_corrected : Stmt := inClass (top 27) 5
abbrev N_InterleavedCode_corrected : List Str := ["self", "received", "part"]
theorem sc_InterleavedCode_corrected : FnScope N_InterleavedCode_corrected ["self", "received"] (defScope s_InterleavedCode_corrected) := ⟨rfl, rfl, rfl, by decide +kernel, rfl, by decide +kernel, by decide +kernel⟩
def sp_I_corrected (K : PySem.W.Frag) (CF CE CI CT : Addr) : Sp := fun vs H Q E => ∃ (ca l : Addr) (i : Fin 8) (pts : List (GF i)) (k d : Nat) (R : List (Option (GF i))), vs = [.ref ca, .ref l] ∧ InterAt K CF CE CI H ca i pts k d ∧ pts.Nodup ∧ 1 ≤ k ∧ pts.length ≤ 100 ∧ 1 ≤ d ∧ d ≤ 100 ∧ SqL K H l (vr R) ∧ R.length = d * pts.length ∧
  match decN pts k d R d with
  | some ws => GL H Q (mixL .non (ws.map ve) pts.length)
  | none => ∀ H', Same H H' → E (.ref CT) none H'
theorem ok_I_corrected {f : Addr} {fd' : FuncData} (F : Fun K "corrected" "InterleavedCode.corrected" s_InterleavedCode_corrected f fd') (T : Txt K mg CF CE CI)
    (c1 : Cal P w K mg base CX0 "is_received" ["field", "length", "received"] 1 (sp_is_received K CF)) (c2 : Cal P w K mg base CX0 "spread" ["word", "depth"] 1 (sp_spread K)) (c3 : Cal P w K mg base CX0 "interleave" ["words"] 1 (sp_interleave K))
    (c4 : CalM P w K mg base (L2.CX P w) CE "corrected" ["self", "received"] 7 (sp_E_corrected K CF CE CT)) : FnOk P w K mg base (L2.CX P w) 8 f fd' ["self", "received"] (sp_I_corrected K CF CE CI CT) := by
  obtain ⟨f_is_received, _, ok_is_received, mg_is_received, kp_is_received, b_is_received⟩ := c1
  obtain ⟨f_spread, _, ok_spread, mg_spread, kp_spread, b_spread⟩ := c2
  obtain ⟨f_interleave, _, ok_interleave, mg_interleave, kp_interleave, b_interleave⟩ := c3
  obtain ⟨f_ec, _, ok_ec, m_ec, b_ec⟩ := c4
  refine F.okX sc_InterleavedCode_corrected (fun vs H Q E h => ?_) (fun cdv A outer s H vs Q E hr h => ?_)
  · obtain ⟨ca, l, i, pts, k, d, R, rfl, _⟩ := h; rfl
  · obtain ⟨ca, l, i, pts, kd, d, R, rfl, hI, nd, hk1, n100, hd1, hd2, hl, hR, kk⟩ := h
    have hI' := hI
    obtain ⟨dx, ea, fa, bm, bf, hc, hF, hE⟩ := hI'
    have hE' := hE
    obtain ⟨de, fa', pa, he, hF', hp⟩ := hE'
    refine ⟨_, (pss_cons (ps_if (pt_not (pt_val (pe_call ok_is_received (hr.mono (by decide)) (by rfl) mg_is_received kp_is_received b_is_received .nil pass0 (pa_cons (pe_fld (pv 0) rfl) (pa_cons (pe_fld (pv 0) rfl) (pa_cons (pv 1) pa_nil)))))) (pss_one ps_never) pss_nil)
      (pss_one (ps_ret (pe_call ok_interleave (hr.mono (by decide)) (by rfl) mg_interleave kp_interleave b_interleave .nil pass0 (pa_cons
        (pe_lcX (own := [("part", 2)]) (E := E) (W := fun cls d _ H => E cls d H) rfl rfl (takes_of rfl rfl rfl rfl) (fun _ _ _ _ h => h) rfl sc_InterleavedCode_corrected.nd
          (pi_list (pe_call ok_spread (hr.mono (by decide)) (by rfl) mg_spread kp_spread b_spread .nil pass0 (pa_cons (pv 1) (pa_cons (pe_fld (pv 0) rfl) pa_nil))))
          (blkOk_by (own := [("part", 2)]) (N := N_InterleavedCode_corrected) (sc := defScope s_InterleavedCode_corrected) (by decide +kernel)) (fun _ _ _ _ _ => pg_name (i := 2) sc_InterleavedCode_corrected.nd rfl (Or.inl rfl))
          (fun _ _ _ _ _ => pe_meth (pe_fldK K rfl (pv 0) rfl) T.clE m_ec ok_ec (hr.mono (by decide)) b_ec .nil passB (pa_cons (pv 2) pa_nil))) pa_nil))))), ?_⟩
    refine ⟨_, rfl, ca, CI, dx, _, _, rfl, hc, T.clI, T.fI_field, fI_field _ _ _ _ _ _, _, rfl, ca, CI, dx, _, _, rfl, hc, T.clI, T.fI_length, fI_length _ _ _ _ _ _, _, rfl, fa, l, i, R, by rw [hR]; rfl, hF, hl, _, rfl, ?_⟩
    refine iteF ?_
    refine ⟨_, rfl, _, rfl, ca, CI, dx, _, _, rfl, hc, T.clI, T.fI_depth, fI_depth _ _ _ _ _ _, l, vr R, d, pts.length, rfl, hl, by rw [vr_len]; exact hR, hd1, by omega, fun H1 p as s1 np h1 hal hat => ?_⟩
    refine ⟨p, rfl, ⟨_, SqL.of h1⟩, fun D hD => ?_⟩
    have hparts : ∀ (j : Nat) (a : Addr), as[j]? = some a → H1 a = some (.lst (vr (cutSt none R j d pts.length))) := fun j a ha => by
      rw [hat j a ha]
      exact congrArg (fun z => some (HO.lst z)) (cut_map (vo (i := i)) none R j d pts.length)
    refine lc_list (K := K) (a := p) (xs := as.map V.ref) (fun j H' => ∃ (ws : List (List (GF i))) (bs : List Addr), decN pts kd d R j = some ws ∧ Same H1 H' ∧ H' D = some (.lst (bs.map V.ref)) ∧ bs.length = ws.length ∧ ∀ (t : Nat) (b : Addr), bs[t]? = some b → ∃ w, ws[t]? = some w ∧ H' b = some (.lst (ve w)) ∧ b ≠ D)
      ⟨[], [], rfl, newS hD, upd_same, rfl, fun t b h => by simp at h⟩ (fun j H' _ h => by obtain ⟨_, _, _, s, _⟩ := h; exact s.seq (SqL.of h1)) ?_ ?_
    · rintro j x H' hx ⟨ws, bs, hdec, s', hD', hbl, hbt⟩
      obtain ⟨a, ha, rfl⟩ := refs_get hx
      have hja : j < d := by rw [← hal]; exact (List.getElem?_eq_some_iff.mp ha).1
      refine ⟨rfl, _, rfl, ca, CI, dx, _, _, rfl, (s1.trans s') _ _ hc, T.clI, T.fI_code, fI_code _ _ _ _ _ _, ea, de, _, rfl, (s1.trans s') _ _ he, fE_corrected _ _ _ _, _, rfl, ?_⟩
      refine ⟨ea, a, i, pts, kd, _, rfl, evalS (s1.trans s') hE, nd, hk1, n100, SqL.of (s' _ _ (hparts j a ha)), cutSt_length _ _ _ _ _, ?_⟩
      cases hdc : decode pts kd (cutSt none R j d pts.length) with
      | none =>
        have hn := decN_none (decN_fail hdec hdc) (t := d) hja
        rw [hn] at kk
        exact fun H2 s2 => kk H2 ((s1.trans s').trans s2)
      | some w =>
        have hstep := decN_some hdec hdc
        intro H2 q s2 nq h2
        have nqD : D ≠ q := ne_of_none hD' nq
        have nqD' : q ≠ D := nqD.symm
        refine ⟨_, s2 _ _ hD', smallLt ?_, ws ++ [w], bs ++ [q], hstep, mutS (s'.trans s2) hD, ?_, by simp [hbl], ?_⟩
        · rw [List.length_map, hbl, (decN_length j hdec).1]; omega
        · rw [upd_same]; simp
        · intro t b hb
          by_cases ht : t < bs.length
          · rw [List.getElem?_append_left ht] at hb
            obtain ⟨w', hw', h3, nb⟩ := hbt t b hb
            refine ⟨w', by rw [List.getElem?_append_left (by omega)]; exact hw', ?_, nb⟩
            rw [upd_ne nb]
            exact s2 _ _ h3
          · have htl : t < (bs ++ [q]).length := (List.getElem?_eq_some_iff.mp hb).1
            rw [List.length_append, List.length_cons, List.length_nil] at htl
            have et : t = bs.length := by omega
            subst et
            rw [List.getElem?_append_right (Nat.le_refl _), Nat.sub_self] at hb
            have eb : q = b := Option.some.inj hb
            subst eb
            refine ⟨w, by rw [List.getElem?_append_right (by omega), hbl, Nat.sub_self]; rfl, ?_, nqD'⟩
            rw [upd_ne nqD']
            exact h2
    · rintro H' ⟨ws, bs, hdec, s', hD', hbl, hbt⟩
      rw [List.length_map, hal] at hdec
      obtain ⟨hwl, hwlen⟩ := decN_length d hdec
      rw [hdec] at kk
      refine ⟨D, ws.map ve, pts.length, rfl, ⟨bs, SqL.of hD', by rw [List.length_map]; exact hbl, fun t b hb => ?_⟩, by rw [List.length_map]; omega, by rw [List.length_map]; omega, n100, fun H2 q s2 nq h2 => ?_⟩
      · obtain ⟨w', hw', h3, _⟩ := hbt t b hb
        exact ⟨ve w', by rw [List.getElem?_map, hw']; rfl, SqL.of h3, by rw [ve_len]; exact hwlen w' (List.mem_of_getElem? hw')⟩
      · exact kk _ q ((s1.trans s').trans s2) ((s1.trans s').free nq) h2
end
end NW

set_option Elab.async false
set_option linter.all false
set_option maxRecDepth 100000
/-! Small rules for the law's own text; the law's own field arithmetic. -/
namespace NW
open PySem L2 GP
theorem call_intI {X : Cx} : CallR X (.type "int") (fun xs H Q => ∃ i, xs = [.int i] ∧ Q (.int i) H) := fun pins s σ H xs us Q I r h => call_int1 pins s σ H xs us Q I r (.inl h)
theorem set_same {σ : St} {i : Nat} {x : Option V} (h : σ[i]? = some x) : σ.set i x = σ := by
  apply List.ext_getElem?
  intro j
  rw [List.getElem?_set]
  split
  · rename_i hij
    subst hij
    split
    · exact h.symm
    · rename_i hn
      rw [List.getElem?_eq_none (by omega)] at h
      cases h
  · rfl
/-- if t: x = c, x an int before -/
theorem if_setI {b : Bool} {c0 z0 : Int} {i : Nat} {D : Ends} {σ : St} {H : Hp} (hs : σ[i]? = some (some (.int z0))) (h : ∀ z : Int, D.nx (σ.set i (some (.int z))) H) : if b = true then tAsg (tC (.int c0)) (gName i) D σ H else tNext D σ H := by
  cases b with
  | true => exact iteT (h c0)
  | false =>
    refine iteF ?_
    have q := h z0
    rw [set_same hs] at q
    exact q
/-- (prime, modulus) of the field i as a tuple -/
def FT (K : PySem.W.Frag) (H : Hp) (t : Addr) (i : Fin 8) : Prop := ∃ m, SqT K H t [.int (fp i), .ref m] ∧ SqT K H m (vi (fm i))
theorem ftS {K : PySem.W.Frag} {H H' : Hp} {t : Addr} {i : Fin 8} (s : Same H H') (h : FT K H t i) : FT K H' t i := by
  obtain ⟨m, h1, h2⟩ := h
  exact ⟨m, sqTS s h1, sqTS s h2⟩
/-- a pair (p, (c, ..)) displayed -/
theorem pair_shown {K : PySem.W.Frag} {σ : St} {H : Hp} {Q : VK} {p : Int} {ta : TA} (ms : List Int) (hms : ms.length ≤ 100) (ha : ∀ H Q, Q (vi ms) H → ta σ H Q)
    (h : ∀ H' t m, Same H H' → H' t = some (.tup [.int p, .ref m]) → H' m = some (.tup (vi ms)) → Q (.ref t) H') : tTup (tCons (tC (.int p)) (tCons (tTup ta) tNil)) σ H Q := by
  show ta σ H _
  refine ha _ _ ⟨small (by rw [vi_len]; omega), fun m hm => ?_⟩
  refine ⟨by show 2 ≤ sizeLine; decide, fun t ht => ?_⟩
  exact h _ t m ((newS hm).trans (newS ht)) upd_same (newS ht _ _ upd_same)
/-- the law's product -/
def lRed (p : Int) (md : List Int) (d : Nat) (n : Nat) (r : List Int) : List Int := loopN (fun back r => irIn p md (r.getD (2 * d - 2 - back) 0) (2 * d - 2 - back - d) (d + 1) r) n r
def lTimes (p : Int) (md : List Int) (d : Nat) (a b : Int) : Int := elem p ((lRed p md d (d - 1) (prodOut p (bd a p d) (bd b p d) d d (List.replicate (2 * d - 1) 0))).take d)
theorem lRed_length (p : Int) (md : List Int) (d n : Nat) (r : List Int) : (lRed p md d n r).length = r.length := by
  induction n with
  | zero => rfl
  | succ n ih =>
    show (irIn _ _ _ _ _ (lRed p md d n r)).length = _
    rw [irIn_length, ih]
theorem ltimes_more (i : Fin 8) (a b : GF i) : lTimes (fp i) (fm i) (fd i) (GF.enc a) (GF.enc b) = GF.enc (a * b) := by
  have := (by decide +kernel : ∀ (i : Fin 8) (a b : Fin (qo i)), lTimes (fp i) (fm i) (fd i) (a.val : Nat) (b.val : Nat) = ((fMul i a b).val : Nat)) i a.v b.v
  exact this
end NW

set_option Elab.async false
set_option linter.all false
set_option maxRecDepth 100000
set_option maxHeartbeats 4000000
namespace NW
open PySem L2 GP
section
variable {P : Program} {w : World} {K : PySem.W.Frag} {mg : Str → Option Value} {base : Heap} {CF CE CI CT : Addr}

/-! ### _law_row -/
abbrev s_l_law_row : Stmt := top 47
abbrev N_l_law_row : List Str := ["_law_cell", "_law_many", "_law_at", "_law_row_here", "_law_rest", "_law_mixed_here", "_law_k"]
theorem sc_l_law_row : FnScope N_l_law_row ["_law_cell", "_law_many", "_law_at"] (defScope s_l_law_row) := ⟨rfl, rfl, rfl, by decide +kernel, rfl, by decide +kernel, by decide +kernel⟩
/-- a new list of so many ints -/
def GN (H : Hp) (Q : VK) (n : Nat) : Prop := ∀ H' p (ns : List Int), Same H H' → H p = none → H' p = some (.lst (vi ns)) → ns.length = n → Q (.ref p) H'
def sp_law_row : Sp := fun vs H Q _ => ∃ (c at' : Int) (n : Nat), vs = [.int c, .int n, .int at'] ∧ n ≤ 1000 ∧ GN H Q n
theorem ok_law_row {f : Addr} {fd' : FuncData} (F : Fun K "_law_row" "_law_row" s_l_law_row f fd') (T : Txt K mg CF CE CI) : FnOk P w K mg base CX0 1 f fd' ["_law_cell", "_law_many", "_law_at"] sp_law_row := by
  refine F.ok sc_l_law_row (fun vs H Q E h => ?_) (fun cdv A outer s H vs Q E hr h => ?_)
  · obtain ⟨c, at', n, rfl, _⟩ := h; rfl
  · obtain ⟨c, at', n, rfl, hn, k⟩ := h
    refine ⟨_, (pss_cons (ps_set (i := 3) sc_l_law_row.nd rfl (Or.inl rfl) (pe_lst pa_nil))
      (pss_cons (ps_set (i := 4) sc_l_law_row.nd rfl (Or.inl rfl) (pe_callB call_abs (by rfl) T.n_abs bt_abs (pa_cons (pv 0) pa_nil)))
      (pss_cons (ps_set (i := 5) sc_l_law_row.nd rfl (Or.inl rfl) (pe_op op_mod (pe_callTy call_intI (by rfl) T.n_int bt_int (pa_cons (pe_op op_add (pv 4) (pe_op op_mul pe_int (pv 2))) pa_nil)) pe_int))
      (pss_cons (ps_if (pt_cmpR op_lt (pv 4) (pe_op op_pow pe_int pe_int) (nomark _)) (pss_one (ps_set (i := 4) sc_l_law_row.nd rfl (Or.inl rfl) pe_int)) pss_nil)
      (pss_cons (ps_for PassesOwn.never rfl (pi_range1 (by rfl) T.n_range (pa_cons (pv 1) pa_nil)) (pg_name (i := 6) sc_l_law_row.nd rfl (Or.inl rfl)) (pss_cons (ps_set (i := 5) sc_l_law_row.nd rfl (Or.inl rfl) (pe_op op_mod (pe_callTy call_intI (by rfl) T.n_int bt_int (pa_cons (pe_op op_add (pe_op op_mul (pv 5) pe_int) pe_int) pa_nil)) pe_int))
      (pss_one (ps_if (pt_cmpR op_gt (pv 4) pe_int (nomark _)) (pss_cons (ps_expr (pe_bm PySem.F.plainAttrs_list PySem.F.slot_list_append PySem.F.type_list_append mt_append (pv 3) (pa_cons (pe_op op_mod (pe_callTy call_intI (by rfl) T.n_int bt_int (pa_cons (pv 4) pa_nil)) pe_int) pa_nil)))
      (pss_one (ps_set (i := 4) sc_l_law_row.nd rfl (Or.inl rfl) (pe_op op_fdiv (pv 4) pe_int)))) (pss_one (ps_expr (pe_bm PySem.F.plainAttrs_list PySem.F.slot_list_append PySem.F.type_list_append mt_append (pv 3) (pa_cons (pe_op op_mod (pe_callTy call_intI (by rfl) T.n_int bt_int (pa_cons (pe_op op_fdiv (pv 5) pe_int) pa_nil)) pe_int) pa_nil))))))))
      (pss_one (ps_ret (pv 3)))))))), ?_⟩
    refine ⟨Nat.zero_le _, fun p hp => ?_⟩
    refine ⟨_, rfl, _, rfl, ?_⟩
    refine ⟨_, rfl, _, rfl, _, _, rfl, rfl, .inl ⟨by decide, by decide⟩, _, _, rfl, rfl, _, rfl, _, _, rfl, rfl, (by show (0 : Int) < 2147483647; decide), ?_⟩
    -- if rest < 10 ** 18: rest = 0
    refine ⟨_, rfl, _, _, rfl, rfl, ⟨by decide, by decide, by decide⟩, _, _, rfl, rfl, _, rfl, if_setI (i := 4) rfl fun r0 => ?_⟩
    refine ⟨_, rfl, _, rfl, by omega, by omega, ?_⟩
    rw [Int.toNat_natCast]
    refine for_range (fun j σ H' => ∃ (r mx : Int) (v : Option V) (ns : List Int), σ = [some (.int c), some (.int n), some (.int at'), some (.ref p), some (.int r), some (.int mx), v] ∧ H' = upd H p (.lst (vi ns)) ∧ ns.length = j) ⟨r0, _, none, [], rfl, rfl, rfl⟩ ?_ ?_
    · rintro j σ H' hj ⟨r, mx, v, ns, rfl, rfl, hl⟩
      refine ⟨_, rfl, _, _, rfl, rfl, .inr ⟨by decide, by decide⟩, _, _, rfl, rfl, _, rfl, _, _, rfl, rfl, (by show (0 : Int) < 2147483647; decide), ?_⟩
      refine ⟨_, rfl, _, _, rfl, rfl, _, rfl, ite2 (fun _ => ?_) fun _ => ?_⟩
      · refine ⟨_, rfl, .inl ⟨rfl, _, SqL.of upd_same⟩, _, rfl, _, rfl, _, _, rfl, rfl, (by show (0 : Int) < 1009; decide), p, _, _, rfl, rfl, upd_same, smallLt (by rw [vi_len]; omega), ?_⟩
        refine ⟨_, rfl, _, _, rfl, rfl, ⟨by decide, by decide⟩, _, _, _, ns ++ [r % 1009], rfl, ?_, by simp [hl]⟩
        rw [upd_upd, ← vi_snoc]
      · refine ⟨_, rfl, .inl ⟨rfl, _, SqL.of upd_same⟩, _, rfl, _, _, rfl, rfl, ⟨by decide, by decide⟩, _, rfl, _, _, rfl, rfl, (by show (0 : Int) < 1009; decide), p, _, _, rfl, rfl, upd_same, smallLt (by rw [vi_len]; omega), ?_⟩
        refine ⟨_, _, _, ns ++ [(mx * 48271 + 11) % 2147483647 / 2053 % 1009], rfl, ?_, by simp [hl]⟩
        rw [upd_upd, ← vi_snoc]
    · rintro σ H' ⟨r, mx, v, ns, rfl, rfl, hl⟩
      exact ⟨_, rfl, k _ p ns (newS hp) hp upd_same hl⟩
end
end NW

set_option Elab.async false
set_option linter.all false
set_option maxRecDepth 100000
set_option maxHeartbeats 4000000
namespace NW
open PySem L2 GP
theorem vi_take (ns : List Int) (n : Nat) : (vi ns).take n = vi (ns.take n) := (List.map_take (f := V.int) ..).symm
theorem cut_take (xs : List V) (n : Nat) : cutV xs none (some (n : Int)) = xs.take n := by
  unfold cutV
  rw [HT.sIx_none, HT.sIx_nat, List.drop_zero, Nat.sub_zero]
  rcases Nat.le_total n xs.length with h | h
  · rw [Nat.min_eq_left h]
  · rw [Nat.min_eq_right h, List.take_length, List.take_of_length_le h]
section
variable {P : Program} {w : World} {K : PySem.W.Frag} {mg : Str → Option Value} {base : Heap} {CF CE CI CT : Addr}

/-! ### _law_numbers -/
abbrev s_l_law_numbers : Stmt := top 48
abbrev N_l_law_numbers : List Str := ["_law_script", "_law_many", "_law_cells", "_law_each", "_law_numbers_here", "_law_at", "_law_number"]
theorem sc_l_law_numbers : FnScope N_l_law_numbers ["_law_script", "_law_many"] (defScope s_l_law_numbers) := ⟨rfl, rfl, rfl, by decide +kernel, rfl, by decide +kernel, by decide +kernel⟩
def sp_law_numbers (K : PySem.W.Frag) : Sp := fun vs H Q _ => ∃ (l : Addr) (xs : List Int) (n : Nat), vs = [.ref l, .int n] ∧ SqL K H l (vi xs) ∧ n ≤ 100 ∧ GN H Q n
theorem ok_law_numbers {f : Addr} {fd' : FuncData} (F : Fun K "_law_numbers" "_law_numbers" s_l_law_numbers f fd') (T : Txt K mg CF CE CI)
    (c1 : Cal P w K mg base CX0 "_law_row" ["_law_cell", "_law_many", "_law_at"] 1 sp_law_row) : FnOk P w K mg base CX0 2 f fd' ["_law_script", "_law_many"] (sp_law_numbers K) := by
  obtain ⟨f_l_law_row, _, ok_l_law_row, mg_l_law_row, kp_l_law_row, b_l_law_row⟩ := c1
  refine F.ok sc_l_law_numbers (fun vs H Q E h => ?_) (fun cdv A outer s H vs Q E hr h => ?_)
  · obtain ⟨l, xs, n, rfl, _⟩ := h; rfl
  · obtain ⟨l, xs, n, rfl, hl, hn, k⟩ := h
    refine ⟨_, (pss_cons (ps_set (i := 2) sc_l_law_numbers.nd rfl (Or.inl rfl) (pe_slice sl_list (pv 0) po_none (po_some pe_int)))
      (pss_cons (ps_set (i := 3) sc_l_law_numbers.nd rfl (Or.inl rfl) (pe_op op_add pe_int (pe_op op_fdiv (pv 1) (pe_callB (call_max2 rfl) (by rfl) T.n_max bt_max (pa_cons pe_int (pa_cons (pe_callB call_len_seq (by rfl) T.n_len bt_len (pa_cons (pv 2) pa_nil)) pa_nil))))))
      (pss_cons (ps_set (i := 4) sc_l_law_numbers.nd rfl (Or.inl rfl) (pe_lst pa_nil))
      (pss_cons (ps_for PassesOwn.never rfl (pi_range1 (by rfl) T.n_range (pa_cons (pe_callB call_len_seq (by rfl) T.n_len bt_len (pa_cons (pv 2) pa_nil)) pa_nil)) (pg_name (i := 5) sc_l_law_numbers.nd rfl (Or.inl rfl)) (pss_one (ps_for PassesOwn.never rfl (pi_list (pe_call ok_l_law_row (hr.mono (by decide)) (by rfl) mg_l_law_row kp_l_law_row b_l_law_row .nil pass0 (pa_cons (pe_ix ix_list (pv 2) (pv 5) (fun _ _ => rfl)) (pa_cons (pv 3) (pa_cons (pv 5) pa_nil))))) (pg_name (i := 6) sc_l_law_numbers.nd rfl (Or.inl rfl)) (pss_one (ps_expr (pe_bm PySem.F.plainAttrs_list PySem.F.slot_list_append PySem.F.type_list_append mt_append (pv 4) (pa_cons (pv 6) pa_nil)))))))
      (pss_cons (ps_while PassesOwn.never (pt_cmpR op_lt (pe_callB call_len_seq (by rfl) T.n_len bt_len (pa_cons (pv 4) pa_nil)) (pv 1) (nomark _)) (pss_one (ps_expr (pe_bm PySem.F.plainAttrs_list PySem.F.slot_list_append PySem.F.type_list_append mt_append (pv 4) (pa_cons pe_int pa_nil)))))
      (pss_one (ps_ret (pe_slice sl_list (pv 4) po_none (po_some (pv 1)))))))))), ?_⟩
    refine ⟨_, rfl, _, rfl, l, _, rfl, hl, fun c hc => ?_⟩
    have e63 : cutV (vi xs) none (some 63) = vi (xs.take 63) := by
      rw [show (63 : Int) = ((63 : Nat) : Int) from rfl, cut_take, vi_take]
    rw [e63]
    generalize hcs : xs.take 63 = cs
    have hcl : cs.length ≤ 63 := by rw [← hcs, List.length_take]; omega
    have s1 := newS (o := .lst (vi cs)) hc
    have hc1 : upd H c (.lst (vi cs)) c = some (.lst (vi cs)) := upd_same
    generalize hH1 : upd H c (.lst (vi cs)) = H1 at s1 hc1
    -- each
    refine ⟨_, rfl, _, rfl, c, _, rfl, .inl (SqL.of hc1), _, _, rfl, _, _, rfl, rfl, ⟨by split <;> omega, by rw [vi_len]; split <;> omega⟩, _, _, rfl, rfl, ?_⟩
    obtain ⟨en, he, hen⟩ : ∃ en : Nat, (1 : Int) + ((n : Nat) : Int) / (if (((vi cs).length : Nat) : Int) > 1 then (((vi cs).length : Nat) : Int) else 1) = (en : Int) ∧ en ≤ 101 := by
      generalize hd : (if (((vi cs).length : Nat) : Int) > 1 then (((vi cs).length : Nat) : Int) else 1) = dv
      have hdv : 1 ≤ dv := by rw [← hd]; split <;> omega
      have h0 : 0 ≤ ((n : Nat) : Int) / dv := Int.ediv_nonneg (by omega) (by omega)
      have h1 : ((n : Nat) : Int) / dv ≤ n := Int.ediv_le_self _ (by omega)
      exact ⟨(1 + ((n : Nat) : Int) / dv).toNat, by omega, by omega⟩
    simp only [he]
    -- numbers = []
    refine ⟨Nat.zero_le _, fun p hp => ?_⟩
    have np0 : H p = none := s1.free hp
    refine ⟨_, rfl, c, _, rfl, .inl (SqL.of (newS hp _ _ hc1)), _, rfl, by omega, by rw [vi_len]; omega, ?_⟩
    rw [Int.toNat_natCast, vi_len]
    refine for_range (fun j σ H' => ∃ (v5 v6 : Option V) (ns : List Int), σ = [some (.ref l), some (.int n), some (.ref c), some (.int en), some (.ref p), v5, v6] ∧ Same H1 H' ∧ H' p = some (.lst (vi ns)) ∧ ns.length = j * en) ⟨none, none, [], rfl, newS hp, upd_same, by simp⟩ ?_ ?_
    · rintro j σ H2 hj ⟨v5, v6, ns, rfl, s2, hp2, hns⟩
      have ej : (0 : Int) + (j : Nat) = ((j : Nat) : Int) := by omega
      refine ⟨_, rfl, _, rfl, c, _, _, _, rfl, rfl, SqL.of (s2 _ _ hc1), at_of ej (vi_at hj), _, rfl, _, rfl, _, _, en, rfl, by omega, fun H3 q ms s3 nq hq hms => ?_⟩
      refine ⟨q, rfl, ⟨_, SqL.of hq⟩, for_list (K := K) (a := q) (xs := vi ms) (fun t σ H' => ∃ (v6 : Option V) (ns : List Int), σ = [some (.ref l), some (.int n), some (.ref c), some (.int en), some (.ref p), some (.int (0 + (j : Nat))), v6] ∧ Same H1 H' ∧ H' p = some (.lst (vi ns)) ∧ H' q = some (.lst (vi ms)) ∧ ns.length = j * en + t)
        ⟨v6, ns, rfl, s2.trans s3, s3 _ _ hp2, hq, by omega⟩ (fun t σ H' _ ⟨_, _, _, _, _, h, _⟩ => SqL.of h) ?_ ?_⟩
      · rintro t x σ H4 hx ⟨v6, ns, rfl, s4, hp4, hq4, hl4⟩
        obtain ⟨z, hz, rfl⟩ := vi_get hx
        have ht : t < ms.length := (List.getElem?_eq_some_iff.mp hz).1
        have npq : q ≠ p := (ne_of_none hp2 nq).symm
        refine ⟨_, rfl, .inl ⟨rfl, _, SqL.of hp4⟩, _, rfl, p, _, _, rfl, rfl, hp4, smallLt ?_, _, ns ++ [z], rfl, mutS s4 hp, ?_, ?_, by simp [hl4]; omega⟩
        · rw [vi_len, hl4]
          have : j * en ≤ 63 * 101 := Nat.mul_le_mul (by omega) hen
          omega
        · rw [upd_same, ← vi_snoc]
        · rw [upd_ne npq]; exact hq4
      · rintro σ H4 ⟨v6, ns, rfl, s4, hp4, hq4, hl4⟩
        rw [vi_len, hms] at hl4
        exact ⟨_, _, ns, rfl, s4, hp4, by rw [hl4, Nat.succ_mul]⟩
    · rintro σ H2 ⟨v5, v6, ns, rfl, s2, hp2, hns⟩
      have hns2 : ns.length ≤ 6363 := by
        rw [hns]
        exact Nat.le_trans (Nat.mul_le_mul hcl hen) (by decide)
      -- while len(numbers) < many: append(0)
      refine ⟨fun mm σ H' => ∃ (v5 v6 : Option V) (ns : List Int), σ = [some (.ref l), some (.int n), some (.ref c), some (.int en), some (.ref p), v5, v6] ∧ Same H1 H' ∧ H' p = some (.lst (vi ns)) ∧ ns.length ≤ 6363 ∧ mm = n - ns.length, ⟨_, v5, v6, ns, rfl, s2, hp2, hns2, rfl⟩, ?_⟩
      rintro mm σ H3 ⟨v5, v6, ns, rfl, s3, hp3, hl3, rfl⟩
      refine ⟨_, rfl, p, _, rfl, .inl (SqL.of hp3), _, rfl, _, _, rfl, rfl, _, rfl, ite2 (fun cc => ?_) fun cc => ?_⟩
      · have cc := of_decide_eq_true cc
        rw [vi_len] at cc
        refine ⟨fun σ' H' => ∃ (v5 v6 : Option V), σ' = [some (.ref l), some (.int n), some (.ref c), some (.int en), some (.ref p), v5, v6] ∧ Same H1 H' ∧ H' p = some (.lst (vi (ns ++ [0]))), ?_, ?_⟩
        · rintro σ' H' ⟨v5, v6, rfl, s4, hp4⟩
          exact ⟨n - (ns ++ [0]).length, by simp; omega, v5, v6, ns ++ [0], rfl, s4, hp4, by simp; omega, rfl⟩
        · refine ⟨_, rfl, .inl ⟨rfl, _, SqL.of hp3⟩, p, _, _, rfl, rfl, hp3, smallLt (by rw [vi_len]; omega), v5, v6, rfl, mutS s3 hp, ?_⟩
          rw [upd_same, ← vi_snoc]
      · have cc : ¬ _ := fun z => cc (decide_eq_true z)
        rw [vi_len] at cc
        refine ⟨_, rfl, _, rfl, _, rfl, p, _, rfl, SqL.of hp3, fun q hq => ?_⟩
        rw [cut_take, vi_take]
        exact k _ q (ns.take n) ((s1.trans s3).trans (newS hq)) ((s1.trans s3).free hq) upd_same (by rw [List.length_take]; omega)

/-! ### _law_field -/
abbrev s_l_law_field : Stmt := top 50
abbrev N_l_law_field : List Str := ["_law_number", "_law_fields"]
theorem sc_l_law_field : FnScope N_l_law_field ["_law_number"] (defScope s_l_law_field) := ⟨rfl, rfl, rfl, by decide +kernel, rfl, by decide +kernel, by decide +kernel⟩
def sp_law_field (K : PySem.W.Frag) : Sp := fun vs H Q _ => ∃ (z : Int), vs = [.int z] ∧ ∀ (H' : Hp) (t : Addr) (i : Fin 8), Same H H' → FT K H' t i → Q (.ref t) H'
theorem ok_law_field {f : Addr} {fd' : FuncData} (F : Fun K "_law_field" "_law_field" s_l_law_field f fd') (T : Txt K mg CF CE CI) : FnOk P w K mg base CX0 1 f fd' ["_law_number"] (sp_law_field K) := by
  refine F.ok sc_l_law_field (fun vs H Q E h => ?_) (fun cdv A outer s H vs Q E hr h => ?_)
  · obtain ⟨z, rfl, _⟩ := h; rfl
  · obtain ⟨z, rfl, k⟩ := h
    refine ⟨_, (pss_cons (ps_set (i := 1) sc_l_law_field.nd rfl (Or.inl rfl) (pe_lst (pa_cons (pe_tup (pa_cons pe_int (pa_cons (pe_tup (pa_cons pe_int (pa_cons pe_int pa_nil))) pa_nil))) (pa_cons (pe_tup (pa_cons pe_int (pa_cons (pe_tup (pa_cons pe_int (pa_cons pe_int pa_nil))) pa_nil))) (pa_cons (pe_tup (pa_cons pe_int (pa_cons (pe_tup (pa_cons pe_int (pa_cons pe_int pa_nil))) pa_nil))) (pa_cons (pe_tup (pa_cons pe_int (pa_cons (pe_tup (pa_cons pe_int (pa_cons pe_int pa_nil))) pa_nil))) (pa_cons (pe_tup (pa_cons pe_int (pa_cons (pe_tup (pa_cons pe_int (pa_cons pe_int (pa_cons pe_int pa_nil)))) pa_nil))) (pa_cons (pe_tup (pa_cons pe_int (pa_cons (pe_tup (pa_cons pe_int (pa_cons pe_int (pa_cons pe_int (pa_cons pe_int pa_nil))))) pa_nil))) (pa_cons (pe_tup (pa_cons pe_int (pa_cons (pe_tup (pa_cons pe_int (pa_cons pe_int (pa_cons pe_int pa_nil)))) pa_nil))) pa_nil)))))))))
      (pss_one (ps_ret (pe_ix ix_list (pe_op op_cat (pv 1) (pe_lst (pa_cons (pe_tup (pa_cons pe_int (pa_cons (pe_tup (pa_cons pe_int (pa_cons pe_int (pa_cons pe_int pa_nil)))) pa_nil))) pa_nil))) (pe_op op_mod (pe_callTy call_intI (by rfl) T.n_int bt_int (pa_cons (pv 0) pa_nil)) pe_int) (fun _ _ => rfl))))), ?_⟩
    refine ⟨by show 2 ≤ sizeLine; decide, fun m1 c1 => ⟨by show 2 ≤ sizeLine; decide, fun t1 d1 => ?_⟩⟩
    refine ⟨by show 2 ≤ sizeLine; decide, fun m2 c2 => ⟨by show 2 ≤ sizeLine; decide, fun t2 d2 => ?_⟩⟩
    refine ⟨by show 2 ≤ sizeLine; decide, fun m3 c3 => ⟨by show 2 ≤ sizeLine; decide, fun t3 d3 => ?_⟩⟩
    refine ⟨by show 2 ≤ sizeLine; decide, fun m4 c4 => ⟨by show 2 ≤ sizeLine; decide, fun t4 d4 => ?_⟩⟩
    refine ⟨by show 3 ≤ sizeLine; decide, fun m5 c5 => ⟨by show 2 ≤ sizeLine; decide, fun t5 d5 => ?_⟩⟩
    refine ⟨by show 4 ≤ sizeLine; decide, fun m6 c6 => ⟨by show 2 ≤ sizeLine; decide, fun t6 d6 => ?_⟩⟩
    refine ⟨by show 3 ≤ sizeLine; decide, fun m7 c7 => ⟨by show 2 ≤ sizeLine; decide, fun t7 d7 => ?_⟩⟩
    refine ⟨by show 7 ≤ sizeLine; decide, fun p hp => ?_⟩
    refine ⟨_, rfl, ?_⟩
    refine ⟨by show 3 ≤ sizeLine; decide, fun m8 c8 => ⟨by show 2 ≤ sizeLine; decide, fun t8 d8 => ?_⟩⟩
    refine ⟨by show 1 ≤ sizeLine; decide, fun o ho => ?_⟩
    have x1 := newS (o := .tup [.int 0, .int 1]) c1
    have y1 := newS (o := .tup [.int 2, .ref m1]) d1
    have x2 := newS (o := .tup [.int 0, .int 1]) c2
    have y2 := newS (o := .tup [.int 3, .ref m2]) d2
    have x3 := newS (o := .tup [.int 0, .int 1]) c3
    have y3 := newS (o := .tup [.int 5, .ref m3]) d3
    have x4 := newS (o := .tup [.int 0, .int 1]) c4
    have y4 := newS (o := .tup [.int 7, .ref m4]) d4
    have x5 := newS (o := .tup [.int 1, .int 1, .int 1]) c5
    have y5 := newS (o := .tup [.int 2, .ref m5]) d5
    have x6 := newS (o := .tup [.int 1, .int 1, .int 0, .int 1]) c6
    have y6 := newS (o := .tup [.int 2, .ref m6]) d6
    have x7 := newS (o := .tup [.int 1, .int 0, .int 1]) c7
    have y7 := newS (o := .tup [.int 3, .ref m7]) d7
    have x8 := newS (o := .tup [.int 2, .int 1, .int 1]) c8
    have y8 := newS (o := .tup [.int 3, .ref m8]) d8
    have yp := newS (o := .lst [.ref t1, .ref t2, .ref t3, .ref t4, .ref t5, .ref t6, .ref t7]) hp
    have yo := newS (o := .lst [.ref t8]) ho
    refine ⟨p, o, _, _, rfl, rfl, yo _ _ (y8 _ _ (x8 _ _ upd_same)), upd_same, by show 8 ≤ sizeLine; decide, fun r hr' => ?_⟩
    refine ⟨_, rfl, _, rfl, _, _, rfl, rfl, (by show (0 : Int) < 8; decide), ?_⟩
    have yr := newS (o := .lst ([V.ref t1, V.ref t2, V.ref t3, V.ref t4, V.ref t5, V.ref t6, V.ref t7] ++ [V.ref t8])) hr'
    have u8 := yo.trans yr
    have u7 := yp.trans (x8.trans (y8.trans u8))
    have u6 := x7.trans (y7.trans u7)
    have u5 := x6.trans (y6.trans u6)
    have u4 := x5.trans (y5.trans u5)
    have u3 := x4.trans (y4.trans u4)
    have u2 := x3.trans (y3.trans u3)
    have u1 := x2.trans (y2.trans u2)
    have u0 := x1.trans (y1.trans u1)
    have h8 : z % 8 = 0 ∨ z % 8 = 1 ∨ z % 8 = 2 ∨ z % 8 = 3 ∨ z % 8 = 4 ∨ z % 8 = 5 ∨ z % 8 = 6 ∨ z % 8 = 7 := by omega
    rcases h8 with e | e | e | e | e | e | e | e
    · exact ⟨r, _, _, .ref t1, rfl, rfl, SqL.of upd_same, (by rw [e]; rfl), k _ t1 0 u0 ⟨m1, SqT.of (u1 _ _ upd_same), SqT.of (u1 _ _ (y1 _ _ upd_same))⟩⟩
    · exact ⟨r, _, _, .ref t2, rfl, rfl, SqL.of upd_same, (by rw [e]; rfl), k _ t2 1 u0 ⟨m2, SqT.of (u2 _ _ upd_same), SqT.of (u2 _ _ (y2 _ _ upd_same))⟩⟩
    · exact ⟨r, _, _, .ref t3, rfl, rfl, SqL.of upd_same, (by rw [e]; rfl), k _ t3 2 u0 ⟨m3, SqT.of (u3 _ _ upd_same), SqT.of (u3 _ _ (y3 _ _ upd_same))⟩⟩
    · exact ⟨r, _, _, .ref t4, rfl, rfl, SqL.of upd_same, (by rw [e]; rfl), k _ t4 3 u0 ⟨m4, SqT.of (u4 _ _ upd_same), SqT.of (u4 _ _ (y4 _ _ upd_same))⟩⟩
    · exact ⟨r, _, _, .ref t5, rfl, rfl, SqL.of upd_same, (by rw [e]; rfl), k _ t5 4 u0 ⟨m5, SqT.of (u5 _ _ upd_same), SqT.of (u5 _ _ (y5 _ _ upd_same))⟩⟩
    · exact ⟨r, _, _, .ref t6, rfl, rfl, SqL.of upd_same, (by rw [e]; rfl), k _ t6 5 u0 ⟨m6, SqT.of (u6 _ _ upd_same), SqT.of (u6 _ _ (y6 _ _ upd_same))⟩⟩
    · exact ⟨r, _, _, .ref t7, rfl, rfl, SqL.of upd_same, (by rw [e]; rfl), k _ t7 6 u0 ⟨m7, SqT.of (u7 _ _ upd_same), SqT.of (u7 _ _ (y7 _ _ upd_same))⟩⟩
    · exact ⟨r, _, _, .ref t8, rfl, rfl, SqL.of upd_same, (by rw [e]; rfl), k _ t8 7 u0 ⟨m8, SqT.of (u8 _ _ upd_same), SqT.of (u8 _ _ (y8 _ _ upd_same))⟩⟩

/-! ### _law_digits, _law_item -/
abbrev s_l_law_digits : Stmt := top 51
abbrev N_l_law_digits : List Str := ["_law_item_here", "_law_prime", "_law_size", "_law_digits_here", "_law_k"]
theorem sc_l_law_digits : FnScope N_l_law_digits ["_law_item_here", "_law_prime", "_law_size"] (defScope s_l_law_digits) := ⟨rfl, rfl, rfl, by decide +kernel, rfl, by decide +kernel, by decide +kernel⟩
def sp_law_digits : Sp := fun vs H Q _ => ∃ (n b : Int) (k : Nat), vs = [.int n, .int b, .int k] ∧ 0 < b ∧ b ≤ 1000 ∧ k ≤ 1000 ∧ GL H Q (vi (bd n b k))
theorem ok_law_digits {f : Addr} {fd : FuncData} (F : Fun K "_law_digits" "_law_digits" s_l_law_digits f fd) (T : Txt K mg CF CE CI) : FnOk P w K mg base CX0 1 f fd ["_law_item_here", "_law_prime", "_law_size"] sp_law_digits := by
  refine F.ok sc_l_law_digits (fun vs H Q E h => ?_) (fun cdv A outer s H vs Q E hr h => ?_)
  · obtain ⟨n, b, k, rfl, _⟩ := h; rfl
  · obtain ⟨n, b, m, rfl, h1, h2, h3, k⟩ := h
    refine ⟨_, (pss_cons (ps_set (i := 3) sc_l_law_digits.nd rfl (Or.inl rfl) (pe_lst pa_nil))
      (pss_cons (ps_for PassesOwn.never rfl (pi_range1 (by rfl) T.n_range (pa_cons (pv 2) pa_nil)) (pg_name (i := 4) sc_l_law_digits.nd rfl (Or.inl rfl)) (pss_cons (ps_expr (pe_bm PySem.F.plainAttrs_list PySem.F.slot_list_append PySem.F.type_list_append mt_append (pv 3) (pa_cons (pe_op op_mod (pe_callTy call_intI (by rfl) T.n_int bt_int (pa_cons (pv 0) pa_nil)) (pv 1)) pa_nil)))
      (pss_one (ps_set (i := 0) sc_l_law_digits.nd rfl (Or.inl rfl) (pe_op op_fdiv (pv 0) (pv 1))))))
      (pss_one (ps_ret (pv 3))))), ?_⟩
    refine ⟨Nat.zero_le _, fun p hp => ?_⟩
    refine ⟨_, rfl, _, rfl, by omega, by omega, ?_⟩
    rw [Int.toNat_natCast]
    refine for_range (fun i σ H' => ∃ v, σ = [some (.int (shr b i n)), some (.int b), some (.int m), some (.ref p), v] ∧ H' = upd H p (.lst (vi (bd n b i)))) ⟨none, rfl, rfl⟩ ?_ ?_
    · rintro i σ H' hi ⟨v, rfl, rfl⟩
      refine ⟨_, rfl, .inl ⟨rfl, _, SqL.of upd_same⟩, _, rfl, _, rfl, _, rfl, _, _, rfl, rfl, h1, p, _, _, rfl, rfl, upd_same, smallLt (by rw [vi_len, bd_length]; omega), ?_⟩
      refine ⟨_, rfl, _, rfl, _, _, rfl, rfl, ⟨h1, by omega⟩, _, rfl, ?_⟩
      rw [upd_upd, vi_snoc, ← bd_succ]
    · rintro σ H' ⟨v, rfl, rfl⟩
      exact ⟨_, rfl, k _ _ (newS hp) hp upd_same⟩
abbrev s_l_law_item : Stmt := top 52
abbrev N_l_law_item : List Str := ["_law_digits_here", "_law_prime", "_law_item_here", "_law_digit"]
theorem sc_l_law_item : FnScope N_l_law_item ["_law_digits_here", "_law_prime"] (defScope s_l_law_item) := ⟨rfl, rfl, rfl, by decide +kernel, rfl, by decide +kernel, by decide +kernel⟩
def sp_law_item (K : PySem.W.Frag) : Sp := fun vs H Q _ => ∃ (l : Addr) (p : Int) (ds : List Int), vs = [.ref l, .int p] ∧ 0 < p ∧ p ≤ 1000 ∧ SqL K H l (vi ds) ∧ Q (.int (elem p ds)) H
theorem ok_law_item {f : Addr} {fd' : FuncData} (F : Fun K "_law_item" "_law_item" s_l_law_item f fd') (T : Txt K mg CF CE CI) : FnOk P w K mg base CX0 1 f fd' ["_law_digits_here", "_law_prime"] (sp_law_item K) := by
  refine F.ok sc_l_law_item (fun vs H Q E h => ?_) (fun cdv A outer s H vs Q E hr h => ?_)
  · obtain ⟨l, p, ds, rfl, _⟩ := h; rfl
  · obtain ⟨l, p, ds, rfl, p0, p1, hl, k⟩ := h
    refine ⟨_, (pss_cons (ps_set (i := 2) sc_l_law_item.nd rfl (Or.inl rfl) pe_int)
      (pss_cons (ps_for PassesOwn.never rfl (pi_reversed (by rfl) T.n_reversed (pa_cons (pv 0) pa_nil)) (pg_name (i := 3) sc_l_law_item.nd rfl (Or.inl rfl)) (pss_one (ps_set (i := 2) sc_l_law_item.nd rfl (Or.inl rfl) (pe_op op_add (pe_op op_mul (pv 2) (pv 1)) (pv 3)))))
      (pss_one (ps_ret (pv 2))))), ?_⟩
    refine ⟨_, rfl, l, _, rfl, hl, RT.for_Itv (xs := vi ds) (fun j σ H' => ∃ v, σ = [some (.ref l), some (.int p), some (.int (elem p (ds.drop (ds.length - j)))), v] ∧ H' = H) ⟨none, ?_, rfl⟩ (fun j σ H' ⟨_, _, e⟩ => by rw [e]; exact hl) ?_ ?_⟩
    · rw [Nat.sub_zero, List.drop_length]; rfl
    · rintro j x σ H' hj hx ⟨v, rfl, rfl⟩
      obtain ⟨z, hz, rfl⟩ := vi_get hx
      rw [vi_len] at hz hj
      have hlt : ds.length - (j + 1) < ds.length := by omega
      have ez : ds[ds.length - (j + 1)] = z := by
        rw [show ds.length - 1 - j = ds.length - (j + 1) by omega, List.getElem?_eq_getElem hlt] at hz
        exact Option.some.inj hz
      have e := foldr_drop p ds hlt
      rw [show ds.length - (j + 1) + 1 = ds.length - j by omega, ez] at e
      refine ⟨_, rfl, _, rfl, _, _, rfl, rfl, .inr ⟨by omega, by omega⟩, _, rfl, _, _, rfl, rfl, some (.int z), ?_, rfl⟩
      rw [e]; rfl
    · rintro σ H' ⟨v, rfl, rfl⟩
      refine ⟨_, rfl, ?_⟩
      rw [vi_len, Nat.sub_self, List.drop_zero]
      exact k

/-! ### _law_order -/
abbrev s_l_law_order : Stmt := top 56
abbrev N_l_law_order : List Str := ["_law_field_here", "_law_order_here", "_law_k"]
theorem sc_l_law_order : FnScope N_l_law_order ["_law_field_here"] (defScope s_l_law_order) := ⟨rfl, rfl, rfl, by decide +kernel, rfl, by decide +kernel, by decide +kernel⟩
def sp_law_order (K : PySem.W.Frag) : Sp := fun vs H Q _ => ∃ (t : Addr) (i : Fin 8), vs = [.ref t] ∧ FT K H t i ∧ Q (.int (fq i)) H
theorem ok_law_order {f : Addr} {fd' : FuncData} (F : Fun K "_law_order" "_law_order" s_l_law_order f fd') (T : Txt K mg CF CE CI) : FnOk P w K mg base CX0 1 f fd' ["_law_field_here"] (sp_law_order K) := by
  refine F.ok sc_l_law_order (fun vs H Q E h => ?_) (fun cdv A outer s H vs Q E hr h => ?_)
  · obtain ⟨t, i, rfl, _⟩ := h; rfl
  · obtain ⟨t, i, rfl, ⟨m, ht, hm⟩, k⟩ := h
    have p7 := fp_le i
    have d3 := fd_le i
    have ml := fm_length i
    refine ⟨_, (pss_cons (ps_set (i := 1) sc_l_law_order.nd rfl (Or.inl rfl) pe_int)
      (pss_cons (ps_for PassesOwn.never rfl (pi_range1 (by rfl) T.n_range (pa_cons (pe_op op_sub (pe_callB call_len_seq (by rfl) T.n_len bt_len (pa_cons (pe_ix ix_tup (pv 0) pe_int (fun _ _ => rfl)) pa_nil)) pe_int) pa_nil)) (pg_name (i := 2) sc_l_law_order.nd rfl (Or.inl rfl)) (pss_one (ps_set (i := 1) sc_l_law_order.nd rfl (Or.inl rfl) (pe_op op_mul (pv 1) (pe_ix ix_tup (pv 0) pe_int (fun _ _ => rfl))))))
      (pss_one (ps_ret (pv 1))))), ?_⟩
    refine ⟨_, rfl, t, _, _, _, rfl, rfl, ht, at_nat (j := 1) rfl, m, _, rfl, .inr hm, _, _, rfl, rfl, _, rfl, by rw [vi_len]; omega, by rw [vi_len]; omega, ?_⟩
    have en : (((vi (fm i)).length : Int) - 1).toNat = fd i := by rw [vi_len, ml]; omega
    rw [en]
    refine for_range (fun j σ H' => ∃ v, σ = [some (.ref t), some (.int ((fp i : Int) ^ j)), v] ∧ H' = H) ⟨none, by rw [Int.pow_zero]; rfl, rfl⟩ ?_ ?_
    · rintro j σ H' hj ⟨v, rfl, rfl⟩
      exact ⟨_, rfl, _, rfl, t, _, _, _, rfl, rfl, ht, at_nat (j := 0) rfl, _, _, rfl, rfl, .inr ⟨by omega, by omega⟩, _, by rw [Int.pow_succ]; rfl, rfl⟩
    · rintro σ H' ⟨v, rfl, rfl⟩
      rw [fq_pow]
      exact ⟨_, rfl, k⟩
end
end NW

set_option Elab.async false
set_option linter.all false
set_option maxRecDepth 100000
set_option maxHeartbeats 4000000
namespace NW
open PySem L2 GP
section
variable {P : Program} {w : World} {K : PySem.W.Frag} {mg : Str → Option Value} {base : Heap} {CF CE CI CT : Addr}

/-! ### _law_plus -/
abbrev s_l_law_plus : Stmt := top 53
abbrev N_l_law_plus : List Str := ["_law_field_here", "_law_a", "_law_b", "_law_prime", "_law_modulus", "_law_first", "_law_second", "_law_k"]
theorem sc_l_law_plus : FnScope N_l_law_plus ["_law_field_here", "_law_a", "_law_b"] (defScope s_l_law_plus) := ⟨rfl, rfl, rfl, by decide +kernel, rfl, by decide +kernel, by decide +kernel⟩
def sp_law_plus (K : PySem.W.Frag) : Sp := fun vs H Q _ => ∃ (t : Addr) (i : Fin 8) (a b : GF i), vs = [.ref t, .int a.enc, .int b.enc] ∧ FT K H t i ∧ GV H Q (.int (a + b).enc)
theorem ok_law_plus {f : Addr} {fd' : FuncData} (F : Fun K "_law_plus" "_law_plus" s_l_law_plus f fd') (T : Txt K mg CF CE CI)
    (c1 : Cal P w K mg base CX0 "_law_digits" ["_law_item_here", "_law_prime", "_law_size"] 1 sp_law_digits) (c2 : Cal P w K mg base CX0 "_law_item" ["_law_digits_here", "_law_prime"] 1 (sp_law_item K)) : FnOk P w K mg base CX0 2 f fd' ["_law_field_here", "_law_a", "_law_b"] (sp_law_plus K) := by
  obtain ⟨f_l_law_digits, _, ok_l_law_digits, mg_l_law_digits, kp_l_law_digits, b_l_law_digits⟩ := c1
  obtain ⟨f_l_law_item, _, ok_l_law_item, mg_l_law_item, kp_l_law_item, b_l_law_item⟩ := c2
  refine F.ok sc_l_law_plus (fun vs H Q E h => ?_) (fun cdv A outer s H vs Q E hr h => ?_)
  · obtain ⟨t, i, a, b, rfl, _⟩ := h; rfl
  · obtain ⟨t, i, a, b, rfl, ⟨m, ht, hm⟩, k⟩ := h
    have p2 := fp_pos i
    have p7 := fp_le i
    have d3 := fd_le i
    have ml := fm_length i
    refine ⟨_, (pss_cons (ps_asg (pv 0) (pg_tup (by rfl) (pgs_cons (pg_name (i := 3) sc_l_law_plus.nd rfl (Or.inr rfl)) (pgs_cons (pg_name (i := 4) sc_l_law_plus.nd rfl (Or.inl rfl)) pgs_nil))))
      (pss_cons (ps_set (i := 5) sc_l_law_plus.nd rfl (Or.inr rfl) (pe_call ok_l_law_digits (hr.mono (by decide)) (by rfl) mg_l_law_digits kp_l_law_digits b_l_law_digits .nil pass0 (pa_cons (pv 1) (pa_cons (pv 3) (pa_cons (pe_op op_sub (pe_callB call_len_seq (by rfl) T.n_len bt_len (pa_cons (pv 4) pa_nil)) pe_int) pa_nil)))))
      (pss_cons (ps_set (i := 6) sc_l_law_plus.nd rfl (Or.inr rfl) (pe_call ok_l_law_digits (hr.mono (by decide)) (by rfl) mg_l_law_digits kp_l_law_digits b_l_law_digits .nil pass0 (pa_cons (pv 2) (pa_cons (pv 3) (pa_cons (pe_op op_sub (pe_callB call_len_seq (by rfl) T.n_len bt_len (pa_cons (pv 4) pa_nil)) pe_int) pa_nil)))))
      (pss_one (ps_ret (pe_call ok_l_law_item (hr.mono (by decide)) (by rfl) mg_l_law_item kp_l_law_item b_l_law_item .nil pass0 (pa_cons (pe_lc (own := [("_law_k", 7)]) rfl sc_l_law_plus.nd (pi_range1 (by rfl) T.n_range (pa_cons (pe_callB call_len_seq (by rfl) T.n_len bt_len (pa_cons (pv 5) pa_nil)) pa_nil)) (blkOk_by (own := [("_law_k", 7)]) (N := N_l_law_plus) (sc := defScope s_l_law_plus) (by decide +kernel)) (fun _ _ _ _ _ => pg_name (i := 7) sc_l_law_plus.nd rfl (Or.inl rfl)) (fun _ _ _ _ _ => pts_nil) (fun _ _ _ _ _ => (pe_op op_mod (pe_callTy call_intI (by rfl) T.n_int bt_int (pa_cons (pe_op op_add (pe_ix (ix_listK K rfl) (pv 5) (pv 7) (fun _ _ => rfl)) (pe_ix (ix_listK K rfl) (pv 6) (pv 7) (fun _ _ => rfl))) pa_nil)) (pv 3)))) (pa_cons (pv 3) pa_nil)))))))), ?_⟩
    refine ⟨_, rfl, t, _, rfl, ht, rfl, _, _, rfl, _, _, rfl, rfl, ?_⟩
    have el : ((vi (fm i)).length : Int) - 1 = (fd i : Int) := by rw [vi_len, ml]; omega
    refine ⟨_, rfl, _, rfl, _, rfl, m, _, rfl, .inr hm, _, _, rfl, rfl, a.enc, (fp i : Int), fd i, by show [V.int a.enc, V.int (fp i), V.int (((vi (fm i)).length : Int) - 1)] = _; rw [el], by omega, by omega, by omega, fun H1 l1 s1 n1 h1 => ?_⟩
    refine ⟨_, rfl, _, rfl, _, rfl, m, _, rfl, .inr (sqTS s1 hm), _, _, rfl, rfl, b.enc, (fp i : Int), fd i, by show [V.int b.enc, V.int (fp i), V.int (((vi (fm i)).length : Int) - 1)] = _; rw [el], by omega, by omega, by omega, fun H2 l2 s2 n2 h2 => ?_⟩
    have h1' := s2 _ _ h1
    refine ⟨_, rfl, l1, _, rfl, .inl (SqL.of h1'), _, rfl, by omega, by rw [vi_len, bd_length]; omega, fun D hD => ?_⟩
    rw [Int.toNat_natCast, vi_len, bd_length]
    refine lc_range (fun j H' => H' = upd H2 D (.lst (vi ((List.range j).map fun k => ((bd a.enc (fp i) (fd i)).getD k 0 + (bd b.enc (fp i) (fd i)).getD k 0) % (fp i : Int))))) rfl ?_ ?_
    · rintro j H' hj rfl
      have u := newS (o := .lst (vi ((List.range j).map fun k => ((bd a.enc (fp i) (fd i)).getD k 0 + (bd b.enc (fp i) (fd i)).getD k 0) % (fp i : Int)))) hD
      refine ⟨rfl, _, rfl, _, rfl, l1, _, _, _, rfl, rfl, SqL.of (u _ _ h1'), at_of (by simp) (vi_at (j := j) (by rw [bd_length]; omega)), _, rfl, _, rfl, l2, _, _, _, rfl, rfl, SqL.of (u _ _ h2), at_of (by simp) (vi_at (j := j) (by rw [bd_length]; omega)),
        _, _, rfl, rfl, _, rfl, _, rfl, _, _, rfl, rfl, (by show (0 : Int) < fp i; omega), _, upd_same, smallLt (by rw [vi_len, List.length_map, List.length_range]; omega), ?_⟩
      rw [upd_upd, vi_snoc, List.range_succ, List.map_append]
      rfl
    · rintro H' rfl
      have u := newS (o := .lst (vi ((List.range (fd i)).map fun k => ((bd a.enc (fp i) (fd i)).getD k 0 + (bd b.enc (fp i) (fd i)).getD k 0) % (fp i : Int)))) hD
      refine ⟨_, rfl, D, (fp i : Int), _, rfl, by omega, by omega, SqL.of upd_same, ?_⟩
      have e := plus_more i a b
      unfold plusD at e
      rw [e]
      exact k _ ((s1.trans s2).trans u)

/-! ### _law_times -/
abbrev s_l_law_times : Stmt := top 54
abbrev N_l_law_times : List Str := ["_law_field_here", "_law_a", "_law_b", "_law_prime", "_law_modulus", "_law_size", "_law_first", "_law_second", "_law_product", "_law_i", "_law_j", "_law_back", "_law_top", "_law_factor", "_law_k"]
theorem sc_l_law_times : FnScope N_l_law_times ["_law_field_here", "_law_a", "_law_b"] (defScope s_l_law_times) := ⟨rfl, rfl, rfl, by decide +kernel, rfl, by decide +kernel, by decide +kernel⟩
def sp_law_times (K : PySem.W.Frag) : Sp := fun vs H Q _ => ∃ (t : Addr) (i : Fin 8) (a b : GF i), vs = [.ref t, .int a.enc, .int b.enc] ∧ FT K H t i ∧ GV H Q (.int (a * b).enc)
theorem ok_law_times {f : Addr} {fd' : FuncData} (F : Fun K "_law_times" "_law_times" s_l_law_times f fd') (T : Txt K mg CF CE CI)
    (c1 : Cal P w K mg base CX0 "_law_digits" ["_law_item_here", "_law_prime", "_law_size"] 1 sp_law_digits) (c2 : Cal P w K mg base CX0 "_law_item" ["_law_digits_here", "_law_prime"] 1 (sp_law_item K)) : FnOk P w K mg base CX0 2 f fd' ["_law_field_here", "_law_a", "_law_b"] (sp_law_times K) := by
  obtain ⟨f_l_law_digits, _, ok_l_law_digits, mg_l_law_digits, kp_l_law_digits, b_l_law_digits⟩ := c1
  obtain ⟨f_l_law_item, _, ok_l_law_item, mg_l_law_item, kp_l_law_item, b_l_law_item⟩ := c2
  refine F.ok sc_l_law_times (fun vs H Q E h => ?_) (fun cdv A outer s H vs Q E hr h => ?_)
  · obtain ⟨t, i, a, b, rfl, _⟩ := h; rfl
  · obtain ⟨t, i, a, b, rfl, ⟨m, ht, hm⟩, k⟩ := h
    have p2 := fp_pos i
    have p7 := fp_le i
    have d3 := fd_le i
    have d1 := fd_pos i
    have ml := fm_length i
    refine ⟨_, (pss_cons (ps_asg (pv 0) (pg_tup (by rfl) (pgs_cons (pg_name (i := 3) sc_l_law_times.nd rfl (Or.inl rfl)) (pgs_cons (pg_name (i := 4) sc_l_law_times.nd rfl (Or.inl rfl)) pgs_nil))))
      (pss_cons (ps_set (i := 5) sc_l_law_times.nd rfl (Or.inl rfl) (pe_op op_sub (pe_callB call_len_seq (by rfl) T.n_len bt_len (pa_cons (pv 4) pa_nil)) pe_int))
      (pss_cons (ps_set (i := 6) sc_l_law_times.nd rfl (Or.inl rfl) (pe_call ok_l_law_digits (hr.mono (by decide)) (by rfl) mg_l_law_digits kp_l_law_digits b_l_law_digits .nil pass0 (pa_cons (pv 1) (pa_cons (pv 3) (pa_cons (pv 5) pa_nil)))))
      (pss_cons (ps_set (i := 7) sc_l_law_times.nd rfl (Or.inl rfl) (pe_call ok_l_law_digits (hr.mono (by decide)) (by rfl) mg_l_law_digits kp_l_law_digits b_l_law_digits .nil pass0 (pa_cons (pv 2) (pa_cons (pv 3) (pa_cons (pv 5) pa_nil)))))
      (pss_cons (ps_set (i := 8) sc_l_law_times.nd rfl (Or.inl rfl) (pe_op op_rep (pe_lst (pa_cons pe_int pa_nil)) (pe_op op_sub (pe_op op_mul pe_int (pv 5)) pe_int)))
      (pss_cons (ps_for PassesOwn.never rfl (pi_range1 (by rfl) T.n_range (pa_cons (pv 5) pa_nil)) (pg_name (i := 9) sc_l_law_times.nd rfl (Or.inl rfl)) (pss_one (ps_for PassesOwn.never rfl (pi_range1 (by rfl) T.n_range (pa_cons (pv 5) pa_nil)) (pg_name (i := 10) sc_l_law_times.nd rfl (Or.inl rfl)) (pss_one (ps_asg (pe_op op_mod (pe_callTy call_intI (by rfl) T.n_int bt_int (pa_cons (pe_op op_add (pe_ix ix_list (pv 8) (pe_op op_add (pv 9) (pv 10)) (fun _ _ => rfl)) (pe_op op_mul (pe_ix ix_list (pv 6) (pv 9) (fun _ _ => rfl)) (pe_ix ix_list (pv 7) (pv 10) (fun _ _ => rfl)))) pa_nil)) (pv 3)) (pg_sub (pv 8) (pe_op op_add (pv 9) (pv 10)) set_list))))))
      (pss_cons (ps_for PassesOwn.never rfl (pi_range1 (by rfl) T.n_range (pa_cons (pe_op op_sub (pv 5) pe_int) pa_nil)) (pg_name (i := 11) sc_l_law_times.nd rfl (Or.inl rfl)) (pss_cons (ps_set (i := 12) sc_l_law_times.nd rfl (Or.inl rfl) (pe_op op_sub (pe_op op_sub (pe_op op_mul pe_int (pv 5)) pe_int) (pv 11)))
      (pss_cons (ps_set (i := 13) sc_l_law_times.nd rfl (Or.inl rfl) (pe_ix ix_list (pv 8) (pv 12) (fun _ _ => rfl)))
      (pss_one (ps_for PassesOwn.never rfl (pi_range1 (by rfl) T.n_range (pa_cons (pe_op op_add (pv 5) pe_int) pa_nil)) (pg_name (i := 14) sc_l_law_times.nd rfl (Or.inl rfl)) (pss_one (ps_asg (pe_op op_mod (pe_callTy call_intI (by rfl) T.n_int bt_int (pa_cons (pe_op op_sub (pe_ix ix_list (pv 8) (pe_op op_add (pe_op op_sub (pv 12) (pv 5)) (pv 14)) (fun _ _ => rfl)) (pe_op op_mul (pv 13) (pe_ix ix_tup (pv 4) (pv 14) (fun _ _ => rfl)))) pa_nil)) (pv 3)) (pg_sub (pv 8) (pe_op op_add (pe_op op_sub (pv 12) (pv 5)) (pv 14)) set_list))))))))
      (pss_one (ps_ret (pe_call ok_l_law_item (hr.mono (by decide)) (by rfl) mg_l_law_item kp_l_law_item b_l_law_item .nil pass0 (pa_cons (pe_slice sl_list (pv 8) po_none (po_some (pv 5))) (pa_cons (pv 3) pa_nil)))))))))))), ?_⟩
    refine ⟨_, rfl, t, _, rfl, ht, rfl, _, _, rfl, _, _, rfl, rfl, ?_⟩
    have el : ((vi (fm i)).length : Int) - 1 = (fd i : Int) := by rw [vi_len, ml]; omega
    refine ⟨_, rfl, m, _, rfl, .inr hm, _, _, rfl, rfl, ?_⟩
    simp only [el]
    refine ⟨_, rfl, _, rfl, _, rfl, a.enc, (fp i : Int), fd i, rfl, by omega, by omega, by omega, fun H1 l1 s1 n1 h1 => ?_⟩
    refine ⟨_, rfl, _, rfl, _, rfl, b.enc, (fp i : Int), fd i, rfl, by omega, by omega, by omega, fun H2 l2 s2 n2 h2 => ?_⟩
    have h1' := s2 _ _ h1
    -- product = [0] * (2 * size - 1)
    refine ⟨by show 1 ≤ sizeLine; decide, fun z hz => ?_⟩
    refine ⟨_, rfl, _, _, rfl, rfl, .inl ⟨by omega, by omega⟩, _, _, rfl, rfl, z, _, _, rfl, rfl, upd_same, by show -(2 ^ 63) ≤ (2 * (fd i : Int) - 1); omega, by show (2 * (fd i : Int) - 1) < 2 ^ 63; omega, small (by show 1 * (2 * (fd i : Int) - 1).toNat ≤ _; omega), fun y hy => ?_⟩
    have en : (2 * (fd i : Int) - 1).toNat = 2 * fd i - 1 := by omega
    show tSeq _ _ _ _ (upd _ y (.lst (List.replicate (2 * (fd i : Int) - 1).toNat [V.int 0]).flatten))
    rw [en, rep_vi]
    generalize hHz : upd H2 z (.lst [.int 0]) = H3 at *
    have s3 : Same H2 H3 := by rw [← hHz]; exact newS hz
    have h1'' := s3 _ _ h1'
    have h2'' := s3 _ _ h2
    have hA := bd_range (n := a.enc) (show (0 : Int) < fp i by omega) (fd i)
    have hB := bd_range (n := b.enc) (show (0 : Int) < fp i by omega) (fd i)
    have s03 := (s1.trans s2).trans s3
    refine ⟨_, rfl, _, rfl, by omega, by omega, ?_⟩
    rw [Int.toNat_natCast]
    refine for_range (fun s σ H' => ∃ v1 v2, σ = [some (.ref t), some (.int a.enc), some (.int b.enc), some (.int (fp i)), some (.ref m), some (.int (fd i)), some (.ref l1), some (.ref l2), some (.ref y), v1, v2, none, none, none, none] ∧ H' = upd H3 y (.lst (vi (prodOut (fp i) (bd a.enc (fp i) (fd i)) (bd b.enc (fp i) (fd i)) (fd i) s (List.replicate (2 * fd i - 1) 0))))) ⟨none, none, rfl, rfl⟩ ?_ ?_
    · rintro s σ H' hs ⟨v1, v2, rfl, rfl⟩
      generalize hR : prodOut (fp i) (bd a.enc (fp i) (fd i)) (bd b.enc (fp i) (fd i)) (fd i) s (List.replicate (2 * fd i - 1) 0) = R
      have hRl : R.length = 2 * fd i - 1 := by rw [← hR, prodOut_length, List.length_replicate]
      refine ⟨_, rfl, _, rfl, by omega, by omega, ?_⟩
      rw [Int.toNat_natCast]
      refine for_range (fun q σ H' => ∃ v2, σ = [some (.ref t), some (.int a.enc), some (.int b.enc), some (.int (fp i)), some (.ref m), some (.int (fd i)), some (.ref l1), some (.ref l2), some (.ref y), some (.int (s : Nat)), v2, none, none, none, none] ∧ H' = upd H3 y (.lst (vi (prodIn (fp i) (bd a.enc (fp i) (fd i)) (bd b.enc (fp i) (fd i)) s q R)))) ⟨v2, by simp [gName], rfl⟩ ?_ ?_
      · rintro q σ H' hq ⟨v2, rfl, rfl⟩
        have u := newS (o := .lst (vi (prodIn (fp i) (bd a.enc (fp i) (fd i)) (bd b.enc (fp i) (fd i)) s q R))) hy
        have hl : s + q < (prodIn (fp i) (bd a.enc (fp i) (fd i)) (bd b.enc (fp i) (fd i)) s q R).length := by rw [prodIn_length]; omega
        have ei : ((s : Nat) : Int) + (0 + (q : Nat)) = ((s + q : Nat) : Int) := by omega
        have hAs := hA _ (getD_mem (j := s) (by rw [bd_length]; omega))
        refine ⟨_, rfl, _, rfl, _, rfl, _, _, rfl, rfl, y, _, _, _, rfl, rfl, SqL.of upd_same, at_of ei (vi_at hl), _, rfl, _, rfl, l1, _, _, _, rfl, rfl, SqL.of (u _ _ h1''), at_nat (vi_at (j := s) (by rw [bd_length]; omega)),
          _, rfl, _, rfl, l2, _, _, _, rfl, rfl, SqL.of (u _ _ h2''), at_of (by simp) (vi_at (j := q) (by rw [bd_length]; omega)), _, _, rfl, rfl, .inl ⟨by omega, by omega⟩, _, _, rfl, rfl, _, rfl, _, rfl, _, _, rfl, rfl, (by show (0 : Int) < fp i; omega),
          _, rfl, _, rfl, _, rfl, _, _, rfl, rfl, y, _, _, _, rfl, rfl, upd_same, ixN_of ei (by rw [vi_len]; exact hl), some (.int (0 + (q : Nat))), rfl, ?_⟩
        rw [upd_upd, vi_set]
        rfl
      · rintro σ H' ⟨v2, rfl, rfl⟩
        refine ⟨_, _, rfl, ?_⟩
        rw [← hR]
        rfl
    · rintro σ H' ⟨v1, v2, rfl, rfl⟩
      generalize hR : prodOut (fp i) (bd a.enc (fp i) (fd i)) (bd b.enc (fp i) (fd i)) (fd i) (fd i) (List.replicate (2 * fd i - 1) 0) = R
      have hRl : R.length = 2 * fd i - 1 := by rw [← hR, prodOut_length, List.length_replicate]
      -- for back in range(size - 1)
      refine ⟨_, rfl, _, _, rfl, rfl, _, rfl, by omega, by omega, ?_⟩
      have e1 : ((fd i : Int) - 1).toNat = fd i - 1 := by omega
      rw [e1]
      refine for_range (fun s σ H' => ∃ v3 v4 v5 v6, σ = [some (.ref t), some (.int a.enc), some (.int b.enc), some (.int (fp i)), some (.ref m), some (.int (fd i)), some (.ref l1), some (.ref l2), some (.ref y), v1, v2, v3, v4, v5, v6] ∧ H' = upd H3 y (.lst (vi (lRed (fp i) (fm i) (fd i) s R)))) ⟨none, none, none, none, rfl, rfl⟩ ?_ ?_
      · rintro s σ H' hs ⟨v3, v4, v5, v6, rfl, rfl⟩
        generalize hL : lRed (fp i) (fm i) (fd i) s R = L
        have hLl : L.length = 2 * fd i - 1 := by rw [← hL, lRed_length, hRl]
        have et : 2 * (fd i : Int) - 2 - (0 + (s : Nat)) = ((2 * fd i - 2 - s : Nat) : Int) := by omega
        have htop : 2 * fd i - 2 - s < L.length := by omega
        -- top, factor
        refine ⟨_, rfl, _, _, rfl, rfl, .inl ⟨by omega, by omega⟩, _, _, rfl, rfl, _, rfl, _, _, rfl, rfl, ?_⟩
        refine ⟨_, rfl, _, rfl, y, _, _, _, rfl, rfl, SqL.of upd_same, at_of et (vi_at htop), ?_⟩
        generalize hfac : L.getD (2 * fd i - 2 - s) 0 = fac
        simp only [et]
        refine ⟨_, rfl, _, _, rfl, rfl, _, rfl, by omega, by omega, ?_⟩
        have e2 : ((fd i : Int) + 1).toNat = fd i + 1 := by omega
        rw [e2]
        refine for_range (fun q σ H' => ∃ v6, σ = [some (.ref t), some (.int a.enc), some (.int b.enc), some (.int (fp i)), some (.ref m), some (.int (fd i)), some (.ref l1), some (.ref l2), some (.ref y), v1, v2, some (.int (0 + (s : Nat))), some (.int ((2 * fd i - 2 - s : Nat) : Int)), some (.int fac), v6] ∧
            H' = upd H3 y (.lst (vi (irIn (fp i) (fm i) fac (2 * fd i - 2 - s - fd i) q L)))) ⟨v6, rfl, rfl⟩ ?_ ?_
        · rintro q σ H' hq ⟨v6, rfl, rfl⟩
          have hil : 2 * fd i - 2 - s - fd i + q < (irIn (fp i) (fm i) fac (2 * fd i - 2 - s - fd i) q L).length := by rw [irIn_length]; omega
          have ei : ((2 * fd i - 2 - s : Nat) : Int) - (fd i : Int) + (0 + (q : Nat)) = ((2 * fd i - 2 - s - fd i + q : Nat) : Int) := by omega
          have hmr := fm_range i _ (getD_mem (ns := fm i) (j := q) (by omega))
          refine ⟨_, rfl, _, rfl, _, rfl, _, _, rfl, rfl, _, rfl, _, _, rfl, rfl, y, _, _, _, rfl, rfl, SqL.of upd_same, at_of ei (vi_at hil), _, rfl, _, rfl, _, rfl, m, _, _, _, rfl, rfl, sqTS (s03.trans (newS hy)) hm, at_of (by simp) (vi_at (j := q) (by omega)), _, _, rfl, rfl, .inr ⟨by omega, by omega⟩, _, _, rfl, rfl, _, rfl, _, rfl, _, _, rfl, rfl, (by show (0 : Int) < fp i; omega),
            _, rfl, _, rfl, _, rfl, _, _, rfl, rfl, _, rfl, _, _, rfl, rfl, y, _, _, _, rfl, rfl, upd_same, ixN_of ei (by rw [vi_len]; exact hil), some (.int (0 + (q : Nat))), rfl, ?_⟩
          rw [upd_upd, vi_set]
          rfl
        · rintro σ H' ⟨v6, rfl, rfl⟩
          refine ⟨_, _, _, _, rfl, ?_⟩
          rw [← hfac, ← hL]
          rfl
      · rintro σ H' ⟨v3, v4, v5, v6, rfl, rfl⟩
        generalize hL : lRed (fp i) (fm i) (fd i) (fd i - 1) R = L
        have u := newS (o := .lst (vi L)) hy
        -- return _law_item(product[:size], prime)
        refine ⟨_, rfl, _, rfl, _, rfl, y, _, rfl, SqL.of upd_same, fun q hq => ?_⟩
        rw [cut_take, vi_take]
        refine ⟨_, rfl, q, (fp i : Int), L.take (fd i), rfl, by omega, by omega, SqL.of upd_same, ?_⟩
        have e := ltimes_more i a b
        unfold lTimes at e
        rw [hR, hL] at e
        rw [e]
        exact k _ ((s03.trans u).trans (newS hq))
end
end NW

set_option Elab.async false
set_option linter.all false
set_option maxRecDepth 100000
set_option maxHeartbeats 4000000
namespace NW
open PySem L2 GP
/-! ### all the elements -/
def allG (i : Fin 8) : List (GF i) := (List.finRange (qo i)).map GF.mk
theorem allG_length (i : Fin 8) : (allG i).length = fq i := by unfold allG; rw [List.length_map, List.length_finRange]; rfl
theorem allG_nodup (i : Fin 8) : (allG i).Nodup := (by decide +kernel : ∀ i : Fin 8, (allG i).Nodup) i
theorem mem_allG {i : Fin 8} (a : GF i) : a ∈ allG i := List.mem_map.mpr ⟨a.v, List.mem_finRange _, rfl⟩
theorem allG_rg (i : Fin 8) : rgV 0 (fq i) = ve (allG i) := by
  have e := (by decide +kernel : ∀ i : Fin 8, (List.range (fq i)).map (fun n => (0 : Int) + ((n : Nat) : Int)) = (allG i).map GF.enc) i
  have e2 := congrArg (List.map V.int) e
  rw [List.map_map] at e2
  unfold rgV ve
  rw [show ((fq i : Int) - 0).toNat = fq i by omega]
  exact e2
theorem allG_get {i : Fin 8} {j : Nat} (h : j < fq i) : ∃ a : GF i, (allG i)[j]? = some a ∧ a.enc = ((j : Nat) : Int) := by
  refine ⟨⟨⟨j, h⟩⟩, ?_, rfl⟩
  unfold allG
  rw [List.getElem?_map, List.getElem?_eq_getElem (by rw [List.length_finRange]; exact h), List.getElem_finRange]
  rfl
section
variable {P : Program} {w : World} {K : PySem.W.Frag} {mg : Str → Option Value} {base : Heap} {CF CE CI CT : Addr}

/-! ### _law_values -/
abbrev s_l_law_values : Stmt := top 55
abbrev N_l_law_values : List Str := ["_law_field_here", "_law_points_here", "_law_message", "_law_word", "_law_point", "_law_total", "_law_item_here"]
theorem sc_l_law_values : FnScope N_l_law_values ["_law_field_here", "_law_points_here", "_law_message"] (defScope s_l_law_values) := ⟨rfl, rfl, rfl, by decide +kernel, rfl, by decide +kernel, by decide +kernel⟩
def sp_law_values (K : PySem.W.Frag) : Sp := fun vs H Q _ => ∃ (t l m : Addr) (i : Fin 8) (pts msg : List (GF i)), vs = [.ref t, .ref l, .ref m] ∧ FT K H t i ∧ SqL K H l (ve pts) ∧ SqL K H m (ve msg) ∧ pts.length ≤ 1000 ∧ GL H Q (ve (pts.map (ev msg)))
theorem ok_law_values {f : Addr} {fd' : FuncData} (F : Fun K "_law_values" "_law_values" s_l_law_values f fd') (T : Txt K mg CF CE CI)
    (c1 : Cal P w K mg base CX0 "_law_plus" ["_law_field_here", "_law_a", "_law_b"] 2 (sp_law_plus K)) (c2 : Cal P w K mg base CX0 "_law_times" ["_law_field_here", "_law_a", "_law_b"] 2 (sp_law_times K)) :
    FnOk P w K mg base CX0 3 f fd' ["_law_field_here", "_law_points_here", "_law_message"] (sp_law_values K) := by
  obtain ⟨f_l_law_plus, _, ok_l_law_plus, mg_l_law_plus, kp_l_law_plus, b_l_law_plus⟩ := c1
  obtain ⟨f_l_law_times, _, ok_l_law_times, mg_l_law_times, kp_l_law_times, b_l_law_times⟩ := c2
  refine F.ok sc_l_law_values (fun vs H Q E h => ?_) (fun cdv A outer s H vs Q E hr h => ?_)
  · obtain ⟨t, l, m, i, pts, msg, rfl, _⟩ := h; rfl
  · obtain ⟨t, l, m, i, pts, msg, rfl, ht, hl, hm, hn, k⟩ := h
    refine ⟨_, (pss_cons (ps_set (i := 3) sc_l_law_values.nd rfl (Or.inl rfl) (pe_lst pa_nil))
      (pss_cons (ps_for PassesOwn.never rfl (pi_list (pv 1)) (pg_name (i := 4) sc_l_law_values.nd rfl (Or.inl rfl)) (pss_cons (ps_set (i := 5) sc_l_law_values.nd rfl (Or.inl rfl) pe_int)
      (pss_cons (ps_for PassesOwn.never rfl (pi_reversed (by rfl) T.n_reversed (pa_cons (pv 2) pa_nil)) (pg_name (i := 6) sc_l_law_values.nd rfl (Or.inl rfl)) (pss_one (ps_set (i := 5) sc_l_law_values.nd rfl (Or.inl rfl) (pe_call ok_l_law_plus (hr.mono (by decide)) (by rfl) mg_l_law_plus kp_l_law_plus b_l_law_plus .nil pass0 (pa_cons (pv 0) (pa_cons (pe_call ok_l_law_times (hr.mono (by decide)) (by rfl) mg_l_law_times kp_l_law_times b_l_law_times .nil pass0 (pa_cons (pv 0) (pa_cons (pv 5) (pa_cons (pv 4) pa_nil)))) (pa_cons (pv 6) pa_nil)))))))
      (pss_one (ps_expr (pe_bm PySem.F.plainAttrs_list PySem.F.slot_list_append PySem.F.type_list_append mt_append (pv 3) (pa_cons (pv 5) pa_nil)))))))
      (pss_one (ps_ret (pv 3))))), ?_⟩
    refine ⟨Nat.zero_le _, fun p hp => ?_⟩
    have u0 := newS (o := .lst []) hp
    refine ⟨_, rfl, l, rfl, ⟨_, u0.seq hl⟩, for_list (K := K) (a := l) (xs := ve pts) (fun j σ H' => ∃ v4 v5 v6, σ = [some (.ref t), some (.ref l), some (.ref m), some (.ref p), v4, v5, v6] ∧ Same H H' ∧ H' p = some (.lst (ve ((pts.take j).map (ev msg))))) ⟨none, none, none, rfl, u0, upd_same⟩ (fun j σ H' _ ⟨_, _, _, _, s, _⟩ => s.seq hl) ?_ ?_⟩
    · rintro j x σ H' hx ⟨v4, v5, v6, rfl, s1, hp1⟩
      obtain ⟨y, hy, rfl⟩ := ve_get hx
      have hj : j < pts.length := (List.getElem?_eq_some_iff.mp hy).1
      refine ⟨_, rfl, m, _, rfl, s1.seq hm, RT.for_Itv (xs := ve msg) (fun q σ H2 => ∃ v6, σ = [some (.ref t), some (.ref l), some (.ref m), some (.ref p), some (.int y.enc), some (.int (ev (msg.drop (msg.length - q)) y).enc), v6] ∧ Same H' H2) ⟨v6, ?_, Same.refl _⟩ (fun q σ H2 ⟨_, _, s⟩ => (s1.trans s).seq hm) ?_ ?_⟩
      · rw [Nat.sub_zero, List.drop_length, ev_nil, GF.enc_zero]; rfl
      · rintro q z σ H2 hq hz ⟨v6, rfl, s2⟩
        obtain ⟨a, ha, rfl⟩ := ve_get hz
        rw [ve_len] at ha hq
        have hlt : msg.length - (q + 1) < msg.length := by omega
        have ez : msg[msg.length - (q + 1)] = a := by
          rw [show msg.length - 1 - q = msg.length - (q + 1) by omega, List.getElem?_eq_getElem hlt] at ha
          exact Option.some.inj ha
        have e : ev (msg.drop (msg.length - (q + 1))) y = ev (msg.drop (msg.length - q)) y * y + a := by
          rw [List.drop_eq_getElem_cons hlt, ev_cons, ez, show msg.length - (q + 1) + 1 = msg.length - q by omega]
        refine ⟨_, rfl, _, rfl, _, rfl, _, rfl, t, i, _, _, rfl, ftS (s1.trans s2) ht, fun H3 s3 => ?_⟩
        refine ⟨_, rfl, t, i, _, _, rfl, ftS ((s1.trans s2).trans s3) ht, fun H4 s4 => ⟨some (.int a.enc), ?_, (s2.trans s3).trans s4⟩⟩
        rw [e]; rfl
      · rintro σ H2 ⟨v6, rfl, s2⟩
        have hp2 := s2 _ _ hp1
        refine ⟨_, rfl, .inl ⟨rfl, _, SqL.of hp2⟩, _, rfl, p, _, _, rfl, rfl, hp2, smallLt (by rw [ve_len, List.length_map, List.length_take]; omega), some (.int y.enc), some _, v6, rfl, mutS (s1.trans s2) hp, ?_⟩
        rw [upd_same, ve_len, Nat.sub_self, List.drop_zero, List.take_add_one, hy, List.map_append]
        simp [ve]
    · rintro σ H' ⟨v4, v5, v6, rfl, s1, hp1⟩
      rw [ve_len, List.take_length] at hp1
      exact ⟨_, rfl, k _ _ s1 hp hp1⟩

/-! ### _law_mixed -/
abbrev s_l_law_mixed : Stmt := top 58
abbrev N_l_law_mixed : List Str := ["_law_words_here", "_law_mixed_here", "_law_k", "_law_word"]
theorem sc_l_law_mixed : FnScope N_l_law_mixed ["_law_words_here"] (defScope s_l_law_mixed) := ⟨rfl, rfl, rfl, by decide +kernel, rfl, by decide +kernel, by decide +kernel⟩
def sp_law_mixed (K : PySem.W.Frag) : Sp := fun vs H Q _ => ∃ (l : Addr) (xss : List (List V)) (n : Nat), vs = [.ref l] ∧ LL K H l xss n ∧ 0 < xss.length ∧ xss.length ≤ 100 ∧ n ≤ 100 ∧ GL H Q (mixL .non xss n)
theorem ok_law_mixed {f : Addr} {fd' : FuncData} (F : Fun K "_law_mixed" "_law_mixed" s_l_law_mixed f fd') (T : Txt K mg CF CE CI) : FnOk P w K mg base CX0 1 f fd' ["_law_words_here"] (sp_law_mixed K) := by
  refine F.ok sc_l_law_mixed (fun vs H Q E h => ?_) (fun cdv A outer s H vs Q E hr h => ?_)
  · obtain ⟨l, xss, n, rfl, _⟩ := h; rfl
  · obtain ⟨l, xss, n, rfl, hL, h0, hx, hn, k⟩ := h
    have hL' := hL
    obtain ⟨as, hl, hlen, hat⟩ := hL'
    refine ⟨_, (pss_cons (ps_set (i := 1) sc_l_law_mixed.nd rfl (Or.inl rfl) (pe_lst pa_nil))
      (pss_cons (ps_for PassesOwn.never rfl (pi_range1 (by rfl) T.n_range (pa_cons (pe_callB call_len_seq (by rfl) T.n_len bt_len (pa_cons (pe_ix ix_list (pv 0) pe_int (fun _ _ => rfl)) pa_nil)) pa_nil)) (pg_name (i := 2) sc_l_law_mixed.nd rfl (Or.inl rfl)) (pss_one (ps_for PassesOwn.never rfl (pi_list (pv 0)) (pg_name (i := 3) sc_l_law_mixed.nd rfl (Or.inl rfl)) (pss_one (ps_expr (pe_bm PySem.F.plainAttrs_list PySem.F.slot_list_append PySem.F.type_list_append mt_append (pv 1) (pa_cons (pe_ix ix_list (pv 3) (pv 2) (fun _ _ => rfl)) pa_nil)))))))
      (pss_one (ps_ret (pv 1))))), ?_⟩
    obtain ⟨a0, ha0⟩ : ∃ a0, as[0]? = some a0 := ⟨as[0], List.getElem?_eq_getElem (by omega)⟩
    obtain ⟨xs0, hx0, hs0, hn0⟩ := hat 0 a0 ha0
    have at0 : atI (as.map V.ref) 0 = some (.ref a0) := at_nat (j := 0) (by rw [List.getElem?_map, ha0]; rfl)
    refine ⟨Nat.zero_le _, fun p hp => ?_⟩
    have u0 := newS (o := .lst []) hp
    refine ⟨_, rfl, l, _, _, _, rfl, rfl, u0.seq hl, at0, a0, _, rfl, .inl (u0.seq hs0), _, rfl, by omega, by omega, ?_⟩
    rw [Int.toNat_natCast, hn0]
    refine for_range (fun kk σ H2 => ∃ v2 v3, σ = [some (.ref l), some (.ref p), v2, v3] ∧ H2 = upd H p (.lst (mixL .non xss kk))) ⟨none, none, rfl, rfl⟩ ?_ ?_
    · rintro kk σ H2 hkk ⟨v2, v3, rfl, rfl⟩
      have u := newS (o := .lst (mixL .non xss kk)) hp
      refine ⟨_, rfl, l, rfl, ⟨_, u.seq hl⟩, for_list (K := K) (a := l) (xs := as.map V.ref) (fun j σ H2 => ∃ v3, σ = [some (.ref l), some (.ref p), some (.int (0 + (kk : Nat))), v3] ∧ H2 = upd H p (.lst (mixL .non xss kk ++ (xss.take j).map fun xs => xs.getD kk .non))) ⟨v3, rfl, by simp⟩ (fun j σ H2 _ ⟨_, _, e⟩ => by rw [e]; exact (newS hp).seq hl) ?_ ?_⟩
      · rintro j x σ H2 hx ⟨v3, rfl, rfl⟩
        obtain ⟨a, ha, rfl⟩ := refs_get hx
        obtain ⟨xs, q1, q2, q3⟩ := hat j a ha
        have hjl : j < xss.length := (List.getElem?_eq_some_iff.mp q1).1
        have hget : xs[kk]? = some (xs.getD kk .non) := by rw [List.getD_eq_getElem?_getD, List.getElem?_eq_getElem (by omega)]; rfl
        refine ⟨_, rfl, .inl ⟨rfl, _, SqL.of upd_same⟩, _, rfl, _, rfl, a, _, _, _, rfl, rfl, (newS hp).seq q2, at_of (by simp) hget, p, _, _, rfl, rfl, upd_same, smallLt ?_, some (.ref a), rfl, ?_⟩
        · rw [List.length_append, mixL_length, List.length_map, List.length_take]
          have : kk * xss.length ≤ 100 * 100 := Nat.mul_le_mul (by omega) (by omega)
          omega
        · rw [upd_upd, List.take_add_one, q1, List.map_append, List.append_assoc]
          rfl
      · rintro σ H2 ⟨v3, rfl, rfl⟩
        refine ⟨_, v3, rfl, ?_⟩
        rw [List.length_map, hlen, List.take_length]
        have e : mixL .non xss (kk + 1) = mixL .non xss kk ++ xss.map fun xs => xs.getD kk .non := by
          unfold mixL
          rw [List.range_succ, List.flatMap_append]
          simp
        rw [e]
    · rintro σ H2 ⟨v2, v3, rfl, rfl⟩
      exact ⟨_, rfl, k _ _ (newS hp) hp upd_same⟩

/-! ### _law_points -/
theorem pop_nodup {α : Type} {ps pl : List α} {j : Nat} (h : j < pl.length) (hn : (ps ++ pl).Nodup) : ((ps ++ [pl[j]]) ++ pl.eraseIdx j).Nodup := by
  rw [List.append_assoc]
  have e : pl.Perm (pl[j] :: pl.eraseIdx j) := by
    rw [List.eraseIdx_eq_take_drop_succ]
    refine List.Perm.trans (List.Perm.of_eq ?_) List.perm_middle
    rw [← List.drop_eq_getElem_cons h, List.take_append_drop]
  exact (List.Perm.append_left ps e).nodup hn
theorem map_eraseIdx {α β : Type} (f : α → β) (l : List α) (r : Nat) : (l.map f).eraseIdx r = (l.eraseIdx r).map f := by
  rw [List.eraseIdx_eq_take_drop_succ, List.eraseIdx_eq_take_drop_succ, List.map_append, List.map_take, List.map_drop]
abbrev s_l_law_points : Stmt := top 57
abbrev N_l_law_points : List Str := ["_law_order_here", "_law_many", "_law_numbers_here", "_law_at", "_law_pool", "_law_points_here", "_law_k"]
theorem sc_l_law_points : FnScope N_l_law_points ["_law_order_here", "_law_many", "_law_numbers_here", "_law_at"] (defScope s_l_law_points) := ⟨rfl, rfl, rfl, by decide +kernel, rfl, by decide +kernel, by decide +kernel⟩
def sp_law_points (K : PySem.W.Frag) : Sp := fun vs H Q _ => ∃ (l : Addr) (ns : List Int) (i : Fin 8) (m at' : Nat), vs = [.int (fq i), .int m, .ref l, .int at'] ∧ SqL K H l (vi ns) ∧ m ≤ fq i ∧ at' + m ≤ ns.length ∧ ∀ pts : List (GF i), pts.Nodup → pts.length = m → GL H Q (ve pts)
theorem ok_law_points {f : Addr} {fd' : FuncData} (F : Fun K "_law_points" "_law_points" s_l_law_points f fd') (T : Txt K mg CF CE CI) : FnOk P w K mg base CX0 1 f fd' ["_law_order_here", "_law_many", "_law_numbers_here", "_law_at"] (sp_law_points K) := by
  refine F.ok sc_l_law_points (fun vs H Q E h => ?_) (fun cdv A outer s H vs Q E hr h => ?_)
  · obtain ⟨l, ns, i, m, at', rfl, _⟩ := h; rfl
  · obtain ⟨l, ns, i, m, at', rfl, hl, hm, hat, k⟩ := h
    have q9 := fq_le i
    refine ⟨_, (pss_cons (ps_set (i := 4) sc_l_law_points.nd rfl (Or.inl rfl) (pe_listRg rfl (by rfl) T.n_list (prg_1 (by rfl) T.n_range (pv 0))))
      (pss_cons (ps_set (i := 5) sc_l_law_points.nd rfl (Or.inl rfl) (pe_lst pa_nil))
      (pss_cons (ps_for PassesOwn.never rfl (pi_range1 (by rfl) T.n_range (pa_cons (pv 1) pa_nil)) (pg_name (i := 6) sc_l_law_points.nd rfl (Or.inl rfl)) (pss_one (ps_expr (pe_bm PySem.F.plainAttrs_list PySem.F.slot_list_append PySem.F.type_list_append mt_append (pv 5) (pa_cons (pe_bm PySem.F.plainAttrs_list PySem.F.slot_list_pop PySem.F.type_list_pop mt_popAt (pv 4) (pa_cons (pe_op op_mod (pe_callTy call_intI (by rfl) T.n_int bt_int (pa_cons (pe_ix ix_list (pv 2) (pe_op op_add (pv 3) (pv 6)) (fun _ _ => rfl)) pa_nil)) (pe_callB call_len_seq (by rfl) T.n_len bt_len (pa_cons (pv 4) pa_nil))) pa_nil)) pa_nil)))))
      (pss_one (ps_ret (pv 5)))))), ?_⟩
    refine ⟨_, rfl, _, rfl, RgOk.of_le (by omega) (by omega) (by omega) (by omega), fun p hp => ?_⟩
    rw [allG_rg]
    have s1 := newS (o := .lst (ve (allG i))) hp
    refine ⟨Nat.zero_le _, fun y hy => ?_⟩
    have npy : p ≠ y := ne_of_none (show upd H p (.lst (ve (allG i))) p = some _ from upd_same) hy
    have s2 := s1.trans (newS (o := .lst []) hy)
    have hy0 : H y = none := s1.free hy
    refine ⟨_, rfl, _, rfl, by omega, by omega, ?_⟩
    rw [Int.toNat_natCast]
    refine for_range (fun j σ H2 => ∃ (v : Option V) (ps pl : List (GF i)), σ = [some (.int (fq i)), some (.int m), some (.ref l), some (.int at'), some (.ref p), some (.ref y), v] ∧ Same H H2 ∧ H2 p = some (.lst (ve pl)) ∧ H2 y = some (.lst (ve ps)) ∧ (ps ++ pl).Nodup ∧ ps.length = j ∧ pl.length + j = fq i)
      ⟨none, [], allG i, rfl, s2, by rw [upd_ne npy, upd_same], upd_same, allG_nodup i, rfl, allG_length i⟩ ?_ ?_
    · rintro j σ H2 hj ⟨v, ps, pl, rfl, s3, hp3, hy3, hnd, hps, hpl⟩
      have ej : ((at' : Nat) : Int) + (0 + (j : Nat)) = ((at' + j : Nat) : Int) := by omega
      generalize hz : ns.getD (at' + j) 0 = z
      have hlen : (0 : Int) < ((ve pl).length : Nat) := by rw [ve_len]; omega
      have hr0 := Int.emod_nonneg z (show (((ve pl).length : Nat) : Int) ≠ 0 by omega)
      have hr1 := Int.emod_lt_of_pos z hlen
      obtain ⟨r, er, hrl⟩ : ∃ r : Nat, z % (((ve pl).length : Nat) : Int) = (r : Int) ∧ r < pl.length := ⟨(z % (((ve pl).length : Nat) : Int)).toNat, by omega, by rw [ve_len] at *; omega⟩
      refine ⟨_, rfl, .inl ⟨rfl, _, SqL.of hy3⟩, _, rfl, .inl ⟨rfl, _, SqL.of hp3⟩, _, rfl, _, rfl, _, rfl, _, _, rfl, rfl, l, _, _, _, rfl, rfl, s3.seq hl, at_of ej (vi_at (by omega)), _, rfl, _, rfl, p, _, rfl, .inl (SqL.of hp3), _, _, rfl, rfl, hlen, ?_⟩
      rw [hz]
      simp only [er]
      refine ⟨p, _, _, r, .int (pl[r]).enc, rfl, rfl, hp3, by omega, by omega, (ixN_seq (ixN_of rfl (by rw [ve_len]; exact hrl))).1, ve_of (List.getElem?_eq_getElem hrl), ?_⟩
      · skip
        have hpy : upd H2 p (.lst ((ve pl).eraseIdx r)) y = some (.lst (ve ps)) := by rw [upd_ne npy.symm]; exact hy3
        refine ⟨y, _, _, rfl, rfl, hpy, smallLt (by rw [ve_len]; omega), some (.int (0 + (j : Nat))), ps ++ [pl[r]], pl.eraseIdx r, rfl, mutS (mutS s3 hp) hy0, ?_, ?_, pop_nodup hrl hnd, by simp [hps], ?_⟩
        · rw [upd_ne npy, upd_same]
          rw [map_eraseIdx, map_eraseIdx]
        · rw [upd_same]; simp [ve]
        · rw [List.length_eraseIdx, if_pos hrl]; omega
    · rintro σ H2 ⟨v, ps, pl, rfl, s3, hp3, hy3, hnd, hps, hpl⟩
      exact ⟨_, rfl, k ps (List.nodup_append.mp hnd).1 hps _ _ s3 hy0 hy3⟩
end
end NW

set_option Elab.async false
set_option linter.all false
set_option maxRecDepth 100000
set_option maxHeartbeats 4000000
namespace NW
open PySem L2 GP
/-! ### all messages -/
def msgs (i : Fin 8) : Nat → List (List (GF i))
  | 0 => [[]]
  | k + 1 => (msgs i k).flatMap fun m => (allG i).map fun a => m ++ [a]
theorem flat_length {α β : Type} (f : α → List β) (n : Nat) (xs : List α) (h : ∀ x, (f x).length = n) : (xs.flatMap f).length = xs.length * n := by
  induction xs with
  | nil => simp
  | cons x r ih => rw [List.flatMap_cons, List.length_append, h, ih, List.length_cons, Nat.succ_mul]; omega
theorem msgs_length (i : Fin 8) (k : Nat) : (msgs i k).length = fq i ^ k := by
  induction k with
  | zero => rfl
  | succ k ih =>
    unfold msgs
    rw [flat_length _ (fq i) _ (fun m => by rw [List.length_map, allG_length]), ih, Nat.pow_succ]
theorem mem_msgs {i : Fin 8} {k : Nat} {m : List (GF i)} : m ∈ msgs i k ↔ m.length = k := by
  induction k generalizing m with
  | zero =>
    unfold msgs
    rw [List.mem_singleton]
    exact ⟨fun h => by rw [h]; rfl, fun h => List.length_eq_zero_iff.mp h⟩
  | succ k ih =>
    unfold msgs
    rw [List.mem_flatMap]
    constructor
    · rintro ⟨m', hm', h⟩
      obtain ⟨a, _, rfl⟩ := List.mem_map.mp h
      rw [List.length_append, ih.mp hm']; rfl
    · intro h
      have hne : m ≠ [] := fun z => by rw [z] at h; simp at h
      refine ⟨m.dropLast, ih.mpr (by rw [List.length_dropLast]; omega), List.mem_map.mpr ⟨m.getLast hne, mem_allG _, List.dropLast_concat_getLast hne⟩⟩
/-! ### a new list of lists -/
def LA (H0 H : Hp) (p : Addr) (xss : List (List V)) : Prop := Same H0 H ∧ ∃ as : List Addr, H p = some (.lst (as.map V.ref)) ∧ as.length = xss.length ∧ ∀ (j : Nat) (a : Addr), as[j]? = some a → ∃ xs, xss[j]? = some xs ∧ H a = some (.lst xs) ∧ a ≠ p
theorem LA_nil {H : Hp} {p : Addr} (h : H p = none) : LA H (upd H p (.lst [])) p [] := ⟨newS h, [], upd_same, rfl, fun j a h => by simp at h⟩
theorem LA_push {H0 H H1 : Hp} {p q : Addr} {xss : List (List V)} {xs : List V} (h : LA H0 H p xss) (hp : H0 p = none) (s : Same H H1) (nq : H q = none) (hq : H1 q = some (.lst xs)) :
    ∃ ys : List V, H1 p = some (.lst ys) ∧ ys.length = xss.length ∧ LA H0 (upd H1 p (.lst (ys ++ [.ref q]))) p (xss ++ [xs]) := by
  obtain ⟨s0, as, h1, h2, h3⟩ := h
  have npq : q ≠ p := (ne_of_none h1 nq).symm
  refine ⟨as.map V.ref, s _ _ h1, by rw [List.length_map, h2], mutS (s0.trans s) hp, as ++ [q], ?_, by simp [h2], ?_⟩
  · rw [upd_same]; simp
  · intro t b hb
    by_cases ht : t < as.length
    · rw [List.getElem?_append_left ht] at hb
      obtain ⟨xs', q1, q2, q3⟩ := h3 t b hb
      refine ⟨xs', by rw [List.getElem?_append_left (by omega)]; exact q1, ?_, q3⟩
      rw [upd_ne q3]
      exact s _ _ q2
    · have htl : t < (as ++ [q]).length := (List.getElem?_eq_some_iff.mp hb).1
      rw [List.length_append, List.length_cons, List.length_nil] at htl
      have et : t = as.length := by omega
      subst et
      rw [List.getElem?_append_right (Nat.le_refl _), Nat.sub_self] at hb
      have eb : q = b := Option.some.inj hb
      subst eb
      refine ⟨xs, by rw [List.getElem?_append_right (by omega), h2, Nat.sub_self]; rfl, ?_, npq⟩
      rw [upd_ne npq]
      exact hq
theorem LA_LL {K : PySem.W.Frag} {H0 H : Hp} {p : Addr} {xss : List (List V)} {n : Nat} (h : LA H0 H p xss) (hn : ∀ xs ∈ xss, xs.length = n) : LL K H p xss n := by
  obtain ⟨s0, as, h1, h2, h3⟩ := h
  refine ⟨as, SqL.of h1, h2, fun j a ha => ?_⟩
  obtain ⟨xs, q1, q2, _⟩ := h3 j a ha
  exact ⟨xs, q1, SqL.of q2, hn xs (List.mem_of_getElem? q1)⟩
/-- another base -/
theorem LA_up {H0 H1 H2 H : Hp} {p : Addr} {xss : List (List V)} (s : Same H0 H) (h : LA H1 H p xss) : LA H0 H p xss := ⟨s, h.2⟩
theorem LA_same {H0 H H' : Hp} {p : Addr} {xss : List (List V)} (h : LA H0 H p xss) (s : Same H H') : LA H0 H' p xss := by
  obtain ⟨s0, as, h1, h2, h3⟩ := h
  exact ⟨s0.trans s, as, s _ _ h1, h2, fun j a ha => let ⟨xs, q1, q2, q3⟩ := h3 j a ha; ⟨xs, q1, s _ _ q2, q3⟩⟩
/-! ### near words -/
def er {i : Fin 8} (R : List (Option (GF i))) : Nat := (R.filter Option.isNone).length
theorem errs_le {i : Fin 8} (u : List (GF i)) (R : List (Option (GF i))) : errs u R ≤ u.length := by
  have h := List.length_filter_le (bad u R) (List.range u.length)
  rw [List.length_range] at h
  exact h
def near {i : Fin 8} (k : Nat) (R : List (Option (GF i))) (w : List (GF i)) : Prop := 2 * errs w R + er R + k ≤ R.length
section
variable {P : Program} {w : World} {K : PySem.W.Frag} {mg : Str → Option Value} {base : Heap} {CF CE CI CT : Addr}

/-! ### _law_words -/
abbrev s_l_law_words : Stmt := top 59
abbrev N_l_law_words : List Str := ["_law_field_here", "_law_points_here", "_law_dimension", "_law_messages", "_law_k", "_law_longer", "_law_message", "_law_item_here"]
theorem sc_l_law_words : FnScope N_l_law_words ["_law_field_here", "_law_points_here", "_law_dimension"] (defScope s_l_law_words) := ⟨rfl, rfl, rfl, by decide +kernel, rfl, by decide +kernel, by decide +kernel⟩
def sp_law_words (K : PySem.W.Frag) : Sp := fun vs H Q _ => ∃ (t l : Addr) (i : Fin 8) (pts : List (GF i)) (kd : Nat), vs = [.ref t, .ref l, .int kd] ∧ FT K H t i ∧ SqL K H l (ve pts) ∧ pts.length ≤ 1000 ∧ kd ≤ 3 ∧
  ∀ H' p, LA H H' p ((msgs i kd).map fun m => ve (pts.map (ev m))) → H p = none → Q (.ref p) H'
theorem ok_law_words {f : Addr} {fd' : FuncData} (F : Fun K "_law_words" "_law_words" s_l_law_words f fd') (T : Txt K mg CF CE CI)
    (c1 : Cal P w K mg base CX0 "_law_order" ["_law_field_here"] 1 (sp_law_order K)) (c2 : Cal P w K mg base CX0 "_law_values" ["_law_field_here", "_law_points_here", "_law_message"] 3 (sp_law_values K)) :
    FnOk P w K mg base CX0 4 f fd' ["_law_field_here", "_law_points_here", "_law_dimension"] (sp_law_words K) := by
  obtain ⟨f_l_law_order, _, ok_l_law_order, mg_l_law_order, kp_l_law_order, b_l_law_order⟩ := c1
  obtain ⟨f_l_law_values, _, ok_l_law_values, mg_l_law_values, kp_l_law_values, b_l_law_values⟩ := c2
  refine F.ok sc_l_law_words (fun vs H Q E h => ?_) (fun cdv A outer s H vs Q E hr h => ?_)
  · obtain ⟨t, l, i, pts, kd, rfl, _⟩ := h; rfl
  · obtain ⟨t, l, i, pts, kd, rfl, ht, hl, hn, hk3, k⟩ := h
    have q9 := fq_le i
    refine ⟨_, (pss_cons (ps_set (i := 3) sc_l_law_words.nd rfl (Or.inl rfl) (pe_lst (pa_cons (pe_lst pa_nil) pa_nil)))
      (pss_cons (ps_for PassesOwn.never rfl (pi_range1 (by rfl) T.n_range (pa_cons (pv 2) pa_nil)) (pg_name (i := 4) sc_l_law_words.nd rfl (Or.inl rfl)) (pss_cons (ps_set (i := 5) sc_l_law_words.nd rfl (Or.inl rfl) (pe_lst pa_nil))
      (pss_cons (ps_for PassesOwn.never rfl (pi_list (pv 3)) (pg_name (i := 6) sc_l_law_words.nd rfl (Or.inl rfl)) (pss_one (ps_for PassesOwn.never rfl (pi_range1 (by rfl) T.n_range (pa_cons (pe_call ok_l_law_order (hr.mono (by decide)) (by rfl) mg_l_law_order kp_l_law_order b_l_law_order .nil pass0 (pa_cons (pv 0) pa_nil)) pa_nil)) (pg_name (i := 7) sc_l_law_words.nd rfl (Or.inl rfl)) (pss_one (ps_expr (pe_bm PySem.F.plainAttrs_list PySem.F.slot_list_append PySem.F.type_list_append mt_append (pv 5) (pa_cons (pe_op op_cat (pv 6) (pe_lst (pa_cons (pv 7) pa_nil))) pa_nil)))))))
      (pss_one (ps_set (i := 3) sc_l_law_words.nd rfl (Or.inl rfl) (pv 5))))))
      (pss_one (ps_ret (pe_lc (own := [("_law_message", 6)]) rfl sc_l_law_words.nd (pi_list (pv 3)) (blkOk_by (own := [("_law_message", 6)]) (N := N_l_law_words) (sc := defScope s_l_law_words) (by decide +kernel)) (fun _ _ _ _ _ => pg_name (i := 6) sc_l_law_words.nd rfl (Or.inl rfl)) (fun _ _ _ _ _ => pts_nil) (fun _ _ _ _ _ => (pe_call ok_l_law_values (hr.mono (by decide)) (by rfl) mg_l_law_values kp_l_law_values b_l_law_values .nil pass0 (pa_cons (pv 0) (pa_cons (pv 1) (pa_cons (pv 6) pa_nil)))))))))), ?_⟩
    refine ⟨Nat.zero_le _, fun e0 he0 => ⟨by show 1 ≤ sizeLine; decide, fun p0 hp0 => ?_⟩⟩
    have s0 := newS (o := .lst []) he0
    have la0 : LA H (upd (upd H e0 (.lst [])) p0 (.lst [.ref e0])) p0 ((msgs i 0).map ve) := by
      have n0 : e0 ≠ p0 := ne_of_none (show upd H e0 (.lst []) e0 = some _ from upd_same) hp0
      refine ⟨s0.trans (newS hp0), [e0], upd_same, rfl, fun j a ha => ?_⟩
      cases j with
      | zero =>
        have ea : e0 = a := Option.some.inj ha
        subst ea
        exact ⟨[], rfl, by rw [upd_ne n0, upd_same], n0⟩
      | succ j => simp at ha
    have hq27 : ∀ j, j ≤ kd → fq i ^ j ≤ 729 := fun j hj => Nat.le_trans (Nat.pow_le_pow_left q9 j) (Nat.le_trans (Nat.pow_le_pow_right (by decide) (show j ≤ 3 by omega)) (by decide))
    refine ⟨_, rfl, _, rfl, by omega, by omega, ?_⟩
    rw [Int.toNat_natCast]
    refine for_range (fun j σ H' => ∃ (pm : Addr) (v4 v5 v6 v7 : Option V), σ = [some (.ref t), some (.ref l), some (.int kd), some (.ref pm), v4, v5, v6, v7] ∧ H pm = none ∧ LA H H' pm ((msgs i j).map ve)) ⟨p0, none, none, none, none, rfl, s0.free hp0, la0⟩ ?_ ?_
    · rintro j σ H1 hj ⟨pm, v4, v5, v6, v7, rfl, npm, la⟩
      refine ⟨Nat.zero_le _, fun y hy => ?_⟩
      have hy0 := la.1.free hy
      have la1 := LA_nil hy
      generalize hH2 : upd H1 y (.lst []) = H2 at la1
      have s12 : Same H1 H2 := la1.1
      obtain ⟨sA, as, a1, a2, a3⟩ := id la
      refine ⟨_, rfl, pm, rfl, ⟨_, SqL.of (s12 _ _ a1)⟩, for_list (K := K) (a := pm) (xs := as.map V.ref) (fun q σ H' => ∃ (v4 v6 v7 : Option V), σ = [some (.ref t), some (.ref l), some (.int kd), some (.ref pm), v4, some (.ref y), v6, v7] ∧ LA H1 H' y ((((msgs i j).take q).flatMap fun m => (allG i).map fun a => m ++ [a]).map ve)) ⟨_, v6, v7, rfl, la1⟩ (fun q σ H' _ ⟨_, _, _, _, h⟩ => SqL.of (h.1 _ _ a1)) ?_ ?_⟩
      · rintro q x σ H3 hx ⟨v4, v6, v7, rfl, la3⟩
        obtain ⟨a, ha, rfl⟩ := refs_get hx
        obtain ⟨xs, g1, g2, g3⟩ := a3 q a ha
        rw [List.getElem?_map] at g1
        cases hm : (msgs i j)[q]? with
        | none => rw [hm] at g1; cases g1
        | some m =>
          rw [hm] at g1
          have exs : ve m = xs := Option.some.inj g1
          subst exs
          have hmlen : m.length = j := mem_msgs.mp (List.mem_of_getElem? hm)
          have hqj : q < (msgs i j).length := (List.getElem?_eq_some_iff.mp hm).1
          refine ⟨_, rfl, t, i, rfl, ftS (la.1.trans la3.1) ht, _, rfl, by omega, by omega, ?_⟩
          rw [Int.toNat_natCast]
          refine for_range (fun b σ H' => ∃ (v7 : Option V), σ = [some (.ref t), some (.ref l), some (.int kd), some (.ref pm), v4, some (.ref y), some (.ref a), v7] ∧ LA H1 H' y (((((msgs i j).take q).flatMap fun m => (allG i).map fun a => m ++ [a]) ++ ((allG i).take b).map fun a => m ++ [a]).map ve)) ⟨v7, rfl, by simpa using la3⟩ ?_ ?_
          · rintro b σ H4 hb ⟨v7, rfl, la4⟩
            obtain ⟨g, hg, eg⟩ := allG_get (i := i) hb
            refine ⟨_, rfl, .inl ⟨rfl, _, SqL.of la4.2.choose_spec.1⟩, _, rfl, _, rfl, by show 1 ≤ sizeLine; decide, fun o ho => ?_⟩
            have s45 := newS (o := .lst [.int (0 + (b : Nat))]) ho
            have eb : V.int (0 + (b : Nat)) = .int g.enc := by rw [eg, Int.zero_add]
            refine ⟨a, o, _, _, rfl, rfl, s45 _ _ (la4.1 _ _ g2), upd_same, small (by rw [ve_len]; show m.length + 1 ≤ _; omega), fun c hc => ?_⟩
            have s46 := s45.trans (newS (o := .lst (ve m ++ [.int (0 + (b : Nat))])) hc)
            obtain ⟨ys, hys, hyl, la5⟩ := LA_push la4 hy s46 (s45.free hc) (xs := ve (m ++ [g])) (q := c) (by rw [upd_same, eb]; simp [ve])
            refine ⟨y, _, _, rfl, rfl, hys, smallLt ?_, some (.int (0 + (b : Nat))), rfl, ?_⟩
            · rw [hyl, List.length_map, List.length_append, flat_length _ (fq i) _ (fun m => by rw [List.length_map, allG_length]), List.length_map, List.length_take, List.length_take, allG_length]
              have h1 : q * fq i ≤ 729 * 9 := Nat.mul_le_mul (by have := hq27 j (by omega); rw [msgs_length] at hqj; omega) q9
              have h2 : min q (msgs i j).length * fq i ≤ q * fq i := Nat.mul_le_mul_right _ (Nat.min_le_left _ _)
              omega
            · rw [List.take_add_one, hg, List.map_append (l₁ := (allG i).take b), ← List.append_assoc, List.map_append (l₂ := (some g).toList.map _)]
              exact la5
          · rintro σ H4 ⟨v7, rfl, la4⟩
            rw [← allG_length i, List.take_length] at la4
            refine ⟨v4, some (.ref a), v7, rfl, ?_⟩
            rw [List.take_add_one, hm, List.flatMap_append]
            simpa using la4
      · rintro σ H3 ⟨v4, v6, v7, rfl, la3⟩
        rw [List.length_map, a2, List.length_map, List.take_length] at la3
        exact ⟨_, rfl, y, v4, some (.ref y), v6, v7, rfl, hy0, LA_up (H2 := H) (la.1.trans la3.1) la3⟩
    · rintro σ H1 ⟨pm, v4, v5, v6, v7, rfl, npm, la⟩
      obtain ⟨sA, as, a1, a2, a3⟩ := id la
      refine ⟨_, rfl, pm, rfl, ⟨_, SqL.of a1⟩, fun D hD => ?_⟩
      have lD := LA_nil hD
      refine lc_list (K := K) (a := pm) (xs := as.map V.ref) (fun j H' => LA H1 H' D (((msgs i kd).take j).map fun m => ve (pts.map (ev m)))) lD (fun j H' _ h => SqL.of (h.1 _ _ a1)) ?_ ?_
      · rintro j x H' hx h
        obtain ⟨a, ha, rfl⟩ := refs_get hx
        obtain ⟨xs, g1, g2, g3⟩ := a3 j a ha
        rw [List.getElem?_map] at g1
        cases hm : (msgs i kd)[j]? with
        | none => rw [hm] at g1; cases g1
        | some m =>
          rw [hm] at g1
          have exs : ve m = xs := Option.some.inj g1
          subst exs
          refine ⟨rfl, _, rfl, _, rfl, _, rfl, t, l, a, i, pts, m, rfl, ftS (la.1.trans h.1) ht, (la.1.trans h.1).seq hl, SqL.of (h.1 _ _ g2), hn, fun H2 q s2 nq h2 => ?_⟩
          obtain ⟨ys, hys, hyl, la5⟩ := LA_push h hD s2 nq h2
          refine ⟨_, hys, smallLt ?_, ?_⟩
          · rw [hyl, List.length_map, List.length_take]
            have := hq27 kd (Nat.le_refl _)
            rw [← msgs_length] at this
            omega
          · rw [List.take_add_one, hm, List.map_append]
            exact la5
      · rintro H' h
        rw [List.length_map, a2, List.length_map, List.take_length] at h
        exact k _ D (LA_up (H2 := H) (la.1.trans h.1) h) (la.1.free hD)

/-! ### _law_part -/
abbrev s_l_law_part : Stmt := top 60
abbrev N_l_law_part : List Str := ["_law_words_here", "_law_dimension", "_law_part_here", "_law_erased_here", "_law_word", "_law_errors_here", "_law_k", "_law_item_here"]
theorem sc_l_law_part : FnScope N_l_law_part ["_law_words_here", "_law_dimension", "_law_part_here"] (defScope s_l_law_part) := ⟨rfl, rfl, rfl, by decide +kernel, rfl, by decide +kernel, by decide +kernel⟩
def sp_law_part (K : PySem.W.Frag) : Sp := fun vs H Q _ => ∃ (l pl : Addr) (i : Fin 8) (kd : Nat) (as : List Addr) (ws : List (List (GF i))) (R : List (Option (GF i))), vs = [.ref l, .int kd, .ref pl] ∧ SqL K H l (as.map V.ref) ∧ SqL K H pl (vr R) ∧ as.length = ws.length ∧
  (∀ (j : Nat) (a : Addr), as[j]? = some a → ∃ w, ws[j]? = some w ∧ SqL K H a (ve w) ∧ w.length = R.length) ∧ R.length ≤ 1000 ∧ (∀ H' (j : Nat) a w, Same H H' → as[j]? = some a → ws[j]? = some w → near kd R w → Q (.ref a) H') ∧ (∀ H', Same H H' → (∀ w ∈ ws, ¬ near kd R w) → Q .non H')
theorem ok_law_part {f : Addr} {fd' : FuncData} (F : Fun K "_law_part" "_law_part" s_l_law_part f fd') (T : Txt K mg CF CE CI) : FnOk P w K mg base CX0 1 f fd' ["_law_words_here", "_law_dimension", "_law_part_here"] (sp_law_part K) := by
  refine F.ok sc_l_law_part (fun vs H Q E h => ?_) (fun cdv A outer s H vs Q E hr h => ?_)
  · obtain ⟨l, pl, i, kd, as, ws, R, rfl, _⟩ := h; rfl
  · obtain ⟨l, pl, i, kd, as, ws, R, rfl, hl, hp, hal, hat, hR, k1, k2⟩ := h
    refine ⟨_, (pss_cons (ps_set (i := 3) sc_l_law_part.nd rfl (Or.inl rfl) (pe_callB call_len_seq (by rfl) T.n_len bt_len (pa_cons (pe_lc (own := [("_law_item_here", 7)]) rfl sc_l_law_part.nd (pi_list (pv 2)) (blkOk_by (own := [("_law_item_here", 7)]) (N := N_l_law_part) (sc := defScope s_l_law_part) (by decide +kernel)) (fun _ _ _ _ _ => pg_name (i := 7) sc_l_law_part.nd rfl (Or.inl rfl)) (fun _ _ _ _ _ => pts_one (pt_cmpR op_isN (pv 7) pe_non (nomark _))) (fun _ _ _ _ _ => (pv 7))) pa_nil)))
      (pss_cons (ps_for PassesOwn.never rfl (pi_list (pv 0)) (pg_name (i := 4) sc_l_law_part.nd rfl (Or.inl rfl)) (pss_cons (ps_set (i := 5) sc_l_law_part.nd rfl (Or.inl rfl) pe_int)
      (pss_cons (ps_for PassesOwn.never rfl (pi_range1 (by rfl) T.n_range (pa_cons (pe_callB call_len_seq (by rfl) T.n_len bt_len (pa_cons (pv 2) pa_nil)) pa_nil)) (pg_name (i := 6) sc_l_law_part.nd rfl (Or.inl rfl)) (pss_one (ps_if (PW.pt (pw_and (pt_cmpR op_notN (pe_ix ix_list (pv 2) (pv 6) (fun _ _ => rfl)) pe_non (nomark _)) (pw_and1 (pt_cmpR op_ne (pe_ix ix_list (pv 2) (pv 6) (fun _ _ => rfl)) (pe_ix ix_list (pv 4) (pv 6) (fun _ _ => rfl)) (nomark _))))) (pss_one (ps_set (i := 5) sc_l_law_part.nd rfl (Or.inl rfl) (pe_op op_add (pv 5) pe_int))) pss_nil)))
      (pss_one (ps_if (pt_cmpR op_le (pe_op op_add (pe_op op_mul pe_int (pv 5)) (pv 3)) (pe_op op_sub (pe_callB call_len_seq (by rfl) T.n_len bt_len (pa_cons (pv 2) pa_nil)) (pv 1)) (nomark _)) (pss_one (ps_ret (pv 4))) pss_nil)))))
      (pss_one (ps_ret pe_non)))), ?_⟩
    refine ⟨_, rfl, pl, rfl, ⟨_, hp⟩, fun D hD => ?_⟩
    refine lc_list (K := K) (a := pl) (xs := vr R) (fun j H' => H' = upd H D (.lst (vr ((R.take j).filter Option.isNone)))) rfl (fun j H' _ e => by rw [e]; exact (newS hD).seq hp) ?_ ?_
    · rintro j x H' hx rfl
      rw [List.getElem?_map] at hx
      cases ho : R[j]? with
      | none => rw [ho] at hx; cases hx
      | some o =>
        rw [ho] at hx
        have hx' : vo o = x := Option.some.inj hx
        subst hx'
        have hj : j < R.length := (List.getElem?_eq_some_iff.mp ho).1
        refine ⟨rfl, _, rfl, rfl, _, rfl, ?_⟩
        cases o with
        | none =>
          have e : decide (vo (none : Option (GF i)) = V.non) = true := by simp [vo]
          rw [e]
          refine iteT ⟨_, rfl, _, upd_same, smallLt ?_, ?_⟩
          · rw [vr_len]
            have := List.length_filter_le Option.isNone (R.take j)
            rw [List.length_take] at this
            omega
          · rw [upd_upd, List.take_add_one, ho, List.filter_append, show vr ((R.take j).filter Option.isNone ++ (some (none : Option (GF i))).toList.filter Option.isNone) = vr ((R.take j).filter Option.isNone) ++ vr ((some (none : Option (GF i))).toList.filter Option.isNone) from List.map_append]
            rfl
        | some c =>
          have e : decide (vo (some c : Option (GF i)) = V.non) = false := by simp [vo]
          rw [e]
          refine iteF ?_
          rw [List.take_add_one, ho, List.filter_append]
          simp
    · rintro H' rfl
      rw [vr_len, List.take_length]
      have s1 := newS (o := .lst (vr (R.filter Option.isNone))) hD
      have hD1 : upd H D (.lst (vr (R.filter Option.isNone))) D = _ := upd_same
      generalize upd H D (.lst (vr (R.filter Option.isNone))) = H1 at s1 hD1
      refine ⟨D, _, rfl, .inl (SqL.of hD1), ?_⟩
      rw [vr_len]
      show tSeq _ _ _ _ _
      refine ⟨_, rfl, l, rfl, ⟨_, s1.seq hl⟩, for_list (K := K) (a := l) (xs := as.map V.ref) (fun j σ H' => ∃ v4 v5 v6, σ = [some (.ref l), some (.int kd), some (.ref pl), some (.int (er R : Nat)), v4, v5, v6, none] ∧ H' = H1 ∧ ∀ w ∈ ws.take j, ¬ near kd R w) ⟨none, none, none, rfl, rfl, fun w h => by simp at h⟩ (fun j σ H' _ ⟨_, _, _, _, e, _⟩ => by rw [e]; exact s1.seq hl) ?_ ?_⟩
      · rintro j x σ H' hx ⟨v4, v5, v6, rfl, rfl, hno⟩
        obtain ⟨a, ha, rfl⟩ := refs_get hx
        obtain ⟨u, g1, g2, g3⟩ := hat j a ha
        refine ⟨_, rfl, pl, _, rfl, .inl (s1.seq hp), _, rfl, by omega, by rw [vr_len]; omega, ?_⟩
        rw [Int.toNat_natCast, vr_len]
        refine for_range (fun b σ H2 => ∃ v6, σ = [some (.ref l), some (.int kd), some (.ref pl), some (.int (er R : Nat)), some (.ref a), some (.int (errsN u R b : Nat)), v6, none] ∧ H2 = H') ⟨v6, rfl, rfl⟩ ?_ ?_
        · rintro b σ H2 hb ⟨v6, rfl, rfl⟩
          have eb : (0 : Int) + (b : Nat) = ((b : Nat) : Int) := by omega
          have hbj : atI (vr R) (0 + (b : Nat)) = some (vo (R.getD b none)) := at_of eb (vr_at (by omega))
          refine ⟨_, rfl, _, rfl, pl, _, _, _, rfl, rfl, s1.seq hp, hbj, rfl, _, rfl, ?_⟩
          have hs := errsN_succ u R b
          cases hRb : R.getD b none with
          | none =>
            have hbad : bad u R b = false := by unfold bad; rw [hRb]
            rw [hbad] at hs
            have e : (!decide (vo (none : Option (GF i)) = V.non)) = false := by simp [vo]
            rw [e]
            exact iteF (iteF ⟨_, by rw [hs]; rfl, rfl⟩)
          | some c =>
            rw [hRb] at hbj
            have e : (!decide (vo (some c : Option (GF i)) = V.non)) = true := by simp [vo]
            rw [e]
            refine iteT ⟨_, rfl, _, rfl, pl, _, _, _, rfl, rfl, s1.seq hp, hbj, _, rfl, _, rfl, a, _, _, _, rfl, rfl, s1.seq g2, at_of eb (ve_at (by omega)), rfl, _, rfl, ?_⟩
            by_cases hc : c = u.getD b 0
            · have hbad : bad u R b = false := by unfold bad; rw [hRb]; simp [hc]
              rw [hbad] at hs
              have e2 : (!decide (vo (some c) = V.int (u.getD b 0).enc)) = false := by rw [hc]; simp [vo]
              rw [e2]
              exact iteF ⟨_, by rw [hs]; rfl, rfl⟩
            · have hbad : bad u R b = true := by unfold bad; rw [hRb]; exact decide_eq_true hc
              rw [hbad] at hs
              have e2 : (!decide (vo (some c) = V.int (u.getD b 0).enc)) = true := by
                rw [decide_eq_false (fun z => hc (GF.enc_inj (by injection z)))]; rfl
              rw [e2]
              refine iteT ⟨_, rfl, _, _, rfl, rfl, some (.int (0 + (b : Nat))), ?_, rfl⟩
              rw [hs]
              rfl
        · rintro σ H2 ⟨v6, rfl, rfl⟩
          have eer : errsN u R R.length = errs u R := by unfold errs; rw [g3]
          rw [eer]
          have hel := errs_le u R
          refine ⟨_, rfl, _, _, rfl, rfl, .inr ⟨by omega, by omega⟩, _, rfl, _, _, rfl, rfl, _, rfl, pl, _, rfl, .inl (s1.seq hp), _, rfl, _, _, rfl, rfl, _, _, rfl, rfl, _, rfl, ite2 (fun cc => ?_) fun cc => ?_⟩
          · have cc := of_decide_eq_true cc
            rw [vr_len] at cc
            exact ⟨_, rfl, k1 _ j a u s1 ha g1 (by unfold near; omega)⟩
          · have cc : ¬ _ := fun z => cc (decide_eq_true z)
            rw [vr_len] at cc
            refine ⟨_, _, _, rfl, rfl, fun w hw => ?_⟩
            rw [List.take_add_one, g1] at hw
            rcases List.mem_append.mp hw with hw | hw
            · exact hno w hw
            · have ew : w = u := by simpa using hw
              rw [ew]
              unfold near
              omega
      · rintro σ H' ⟨v4, v5, v6, rfl, rfl, hno⟩
        rw [List.length_map, hal, List.take_length] at hno
        exact k2 _ s1 hno
end
end NW

set_option Elab.async false
set_option linter.all false
set_option maxRecDepth 100000
set_option maxHeartbeats 4000000
/-! Rules with the fragment named; a method called within a try; isinstance of the caught error. -/
namespace NW
open PySem PySem.Spec PyProof.Rows L2
theorem call_isiK {X : Cx} (K : PySem.W.Frag) (hK : X.K = K) : CallR X (.builtin "isinstance") (rIsi K) := by
  subst hK
  exact call_isi
def rIsEc (K : PySem.W.Frag) (D a : Addr) (cls : Value) (d : Option Addr) : List V → Hp → VK → Prop := fun xs H Q => cls = .ref D ∧ d = none ∧ rIsE K D a xs H Q
theorem call_isEK {X : Cx} (K : PySem.W.Frag) (hK : X.K = K) {a D : Addr} {oe : Obj} {cls : Value} {d : Option Addr} {pn : List (Addr × Obj)} (C : ExcC K D) (hz : Zc cls d oe) (hf : ∃ vs, oe.data = .fields vs) : CallR (X.suite a ((a, oe) :: pn)) (.builtin "isinstance") (rIsEc K D a cls d) := by
  subst hK
  intro pins s σ H xs us Q I r h
  obtain ⟨rfl, rfl, h⟩ := h
  exact call_isE C hz hf pins s σ H xs us Q I r h
section
variable {X : Cx} {CX : CXT} {k : Nat} {f C : Addr} {fd : FuncData} {ps : List Str} {sp : Sp} {E : L2.St → XK} {m : Str} {pos apos cpos : Pos} {e o : Expr} {es : List Expr} {ta to : TE} {t : TA}
theorem pe_bmK {name : Str} {T id : String} {r : V → List V → Hp → VK → Prop} (K : PySem.W.Frag) (hK : X.K = K) (pa : PlainAttrs T) (slot : Slot T name id) (hty : typeOf (.builtin id) = pure (.type "method_descriptor")) (hm : MtR X id r) (ho : PE X o to) (ha : PA X (e :: es) t)
    (hbase : attributeBase o name X.env (eval o X.env) = eval o X.env := by rfl)
    (hfew : ((backTo cpos (starEach (e :: es) X.env)).all (fun x => !x.1) && (backToKw cpos (keywordEach [] X.env)).all (fun x => x.1.isSome)
      && decide ((e :: es).length + ([] : List Keyword).length + (if ([] : List Keyword).isEmpty then 0 else 1) < 30)) = true := by rfl)
    (hline : (apos.endLine == cpos.line) = true := by rfl) (hs : starEach (e :: es) X.env = (false, eval e X.env) :: starEach es X.env := by rfl) (hplain : (backTo cpos (starEach es X.env)).any (·.1) = false := by rfl) :
    PE X (.Call (.Attribute o name apos) (e :: es) [] cpos) (tBM K T r to t) := by
  subst hK
  exact pe_bm pa slot hty hm ho ha hbase hfew hline hs hplain
/-- a method's reading, its exceptions told of the slots -/
def tMethS (C : Addr) (m : Str) (sp : Sp) (E : L2.St → XK) (ta : TE) (t : TA) : TE := fun σ H Q => ta σ H fun x H1 => ∃ a dx fs, x = .ref a ∧ H1 a = some (.ins C dx fs) ∧ fs.lookup m = none ∧ t σ H1 fun vs H2 => sp (x :: vs) H2 Q (E σ)
theorem pe_methSt {pl : Sem Bool} (he : PE X o ta) (c : Cls X.K C) (hm : Meth X.K C m f) (F : FnOk X.prog X.w X.K X.mg X.base CX k f fd ps sp) (hr : Room k X.A) (hb : Binds X.K fd ps []) (hx : ∀ σ, PassesAt CX X σ (E σ)) (ha : PA X (e :: es) t)
    (hst : starEach (e :: es) X.env = (false, eval e X.env) :: starEach es X.env := by rfl) (hpl : (backTo pos (starEach es X.env)).any (·.1) = false := by rfl)
    (ht : eval (.Call (.Attribute o m apos) (e :: es) [] pos) X.env = (do
      let ov ← eval o X.env
      standAt apos.atName
      let (f, first) ← holding [ov] (getMethod ov m pl)
      callWith pos f first (backTo pos (starEach (e :: es) X.env)) (backToKw pos (keywordEach [] X.env))) := by rfl) :
    PE X (.Call (.Attribute o m apos) (e :: es) [] pos) (tMethS C m sp E ta t) := by
  refine ⟨fun pins s σ H Q I h => ?_⟩
  refine PySem.W.methodCall_KW (pl := pl) (thn (he.run pins s σ H _ I h) fun u s1 ⟨x, H1, I1, rx, a, dx, fs, ex, ea, l, q⟩ => ?_) ht
  subst ex
  obtain rfl : u = Value.ref a := rx
  refine getmeth_ok I1 ea c hm l ?_
  refine PySem.W.callWith_K (first := [.ref a]) (h₀ := X.base) I.ok.mod.kin hm.kp (thn (ha.run pos pins s1 σ H1 _ I1 q) fun us s2 ⟨vs, H2, I2, r, q2⟩ => ⟨I2.kIn, ?_⟩) hst hpl
  exact run_fnS (us := .ref a :: us) (vs := .ref a :: vs) F hr hb (hx σ) I2 (.cons rfl r) q2
end
/-- the classes of errors as the law asks of them -/
structure TooErr (K : PySem.W.Frag) (mg : Str → Option Value) (CT CC CV : Addr) : Prop where
  c : ExcC K CT
  g_CodeError : mg "CodeError" = some (.ref CC)
  g_InvalidWord : mg "InvalidWord" = some (.ref CV)
  kC : PySem.W.kitOne K (.ref CT) (.ref CC) = some true
  kV : PySem.W.kitOne K (.ref CT) (.ref CV) = some false
  te : PySem.W.exmOne K (.ref CT) (.ref CT) = some true
end NW

set_option Elab.async false
set_option linter.all false
set_option maxRecDepth 100000
set_option maxHeartbeats 4000000
namespace NW
open PySem L2 GP
section
variable {P : Program} {w : World} {K : PySem.W.Frag} {mg : Str → Option Value} {base : Heap} {CF CE CI CT CC CV : Addr}

/-! ### _law_same -/
abbrev s_l_law_same : Stmt := top 49
abbrev N_l_law_same : List Str := ["_law_actual", "_law_due", "_law_k"]
theorem sc_l_law_same : FnScope N_l_law_same ["_law_actual", "_law_due"] (defScope s_l_law_same) := ⟨rfl, rfl, rfl, by decide +kernel, rfl, by decide +kernel, by decide +kernel⟩
/-- items -/
def sp_same1 : Sp := fun vs H Q _ => (∃ z : Int, vs = [.int z, .int z] ∧ Q (.bl true) H) ∨ (vs = [.non, .non] ∧ Q (.bl true) H)
theorem ok_same1 {f : Addr} {fd' : FuncData} (F : Fun K "_law_same" "_law_same" s_l_law_same f fd') (T : Txt K mg CF CE CI) (mg_l_law_same : mg "_law_same" = some (.ref f)) (kp_l_law_same : PySem.W.keepIn K (.ref f) = true) (b_l_law_same : Binds K fd' ["_law_actual", "_law_due"] []) :
    FnOk P w K mg base CX0 1 f fd' ["_law_actual", "_law_due"] sp_same1 := by
  have ok_l_law_same : FnOk P w K mg base CX0 0 f fd' ["_law_actual", "_law_due"] (fun _ _ _ _ => False) := ⟨fun _ _ _ _ h => h.elim, fun _ _ _ _ _ _ _ _ _ _ _ _ _ h => h.elim⟩
  refine F.ok sc_l_law_same (fun vs H Q E h => ?_) (fun cdv A outer s H vs Q E hr h => ?_)
  · rcases h with ⟨z, rfl, _⟩ | ⟨rfl, _⟩ <;> rfl
  · refine ⟨_, (pss_cons (ps_if (pt_cmpR op_isN (pv 1) pe_non (nomark _)) (pss_one (ps_ret (pe_cmpR op_isN (pv 0) pe_non (nomark _)))) pss_nil)
      (pss_cons (ps_if (pt_val (pe_callB call_isi (by rfl) T.n_isinstance bt_isinstance (pa_cons (pv 1) (pa_cons (pe_bltn (v := .ty "list") (by rfl) T.n_list bt_list rfl) pa_nil)))) (pss_cons (ps_if (PW.pt (pw_or (pt_not (pt_val (pe_callB call_isi (by rfl) T.n_isinstance bt_isinstance (pa_cons (pv 0) (pa_cons (pe_bltn (v := .ty "list") (by rfl) T.n_list bt_list rfl) pa_nil))))) (pw_or1 (pt_cmpR op_ne (pe_callB call_len_seq (by rfl) T.n_len bt_len (pa_cons (pv 0) pa_nil)) (pe_callB call_len_seq (by rfl) T.n_len bt_len (pa_cons (pv 1) pa_nil)) (nomark _))))) (pss_one (ps_ret pe_bl)) pss_nil)
      (pss_cons (ps_for PassesOwn.never rfl (pi_range1 (by rfl) T.n_range (pa_cons (pe_callB call_len_seq (by rfl) T.n_len bt_len (pa_cons (pv 1) pa_nil)) pa_nil)) (pg_name (i := 2) sc_l_law_same.nd rfl (Or.inl rfl)) (pss_one (ps_if (pt_not (pt_val (pe_call ok_l_law_same (hr.mono (by decide)) (by rfl) mg_l_law_same kp_l_law_same b_l_law_same .nil pass0 (pa_cons (pe_ix ix_list (pv 0) (pv 2) (fun _ _ => rfl)) (pa_cons (pe_ix ix_list (pv 1) (pv 2) (fun _ _ => rfl)) pa_nil))))) (pss_one (ps_ret pe_bl)) pss_nil)))
      (pss_one (ps_ret pe_bl)))) pss_nil)
      (pss_cons (ps_if (pt_val (pe_callB call_isi (by rfl) T.n_isinstance bt_isinstance (pa_cons (pv 1) (pa_cons (pe_bltn (v := .ty "tuple") (by rfl) T.n_tuple bt_tuple rfl) pa_nil)))) (pss_cons (ps_if (PW.pt (pw_or (pt_not (pt_val (pe_callB call_isi (by rfl) T.n_isinstance bt_isinstance (pa_cons (pv 0) (pa_cons (pe_bltn (v := .ty "tuple") (by rfl) T.n_tuple bt_tuple rfl) pa_nil))))) (pw_or1 (pt_cmpR op_ne (pe_callB call_len_seq (by rfl) T.n_len bt_len (pa_cons (pv 0) pa_nil)) (pe_callB call_len_seq (by rfl) T.n_len bt_len (pa_cons (pv 1) pa_nil)) (nomark _))))) (pss_one (ps_ret pe_bl)) pss_nil)
      (pss_cons (ps_for PassesOwn.never rfl (pi_range1 (by rfl) T.n_range (pa_cons (pe_callB call_len_seq (by rfl) T.n_len bt_len (pa_cons (pv 1) pa_nil)) pa_nil)) (pg_name (i := 2) sc_l_law_same.nd rfl (Or.inl rfl)) (pss_one (ps_if (pt_not (pt_val (pe_call ok_l_law_same (hr.mono (by decide)) (by rfl) mg_l_law_same kp_l_law_same b_l_law_same .nil pass0 (pa_cons (pe_ix ix_list (pv 0) (pv 2) (fun _ _ => rfl)) (pa_cons (pe_ix ix_list (pv 1) (pv 2) (fun _ _ => rfl)) pa_nil))))) (pss_one (ps_ret pe_bl)) pss_nil)))
      (pss_one (ps_ret pe_bl)))) pss_nil)
      (pss_one (ps_ret (pe_and (pe_callB call_isi (by rfl) T.n_isinstance bt_isinstance (pa_cons (pv 0) (pa_cons (pe_bltn (v := .ty "int") (by rfl) T.n_int bt_int rfl) pa_nil))) (pe_and (pe_not (pe_callB call_isi (by rfl) T.n_isinstance bt_isinstance (pa_cons (pv 0) (pa_cons (pe_bltn (v := .ty "bool") (by rfl) T.n_bool bt_bool rfl) pa_nil)))) (pe_one (pe_cmpR op_eq (pv 0) (pv 1) (nomark _)))))))))), ?_⟩
    rcases h with ⟨z, rfl, k⟩ | ⟨rfl, k⟩
    · refine ⟨_, rfl, rfl, _, rfl, iteF ?_⟩
      refine ⟨_, rfl, _, _, _, _, false, rfl, .ty "list", .base (.int z), kit_ty (by decide +kernel), _, rfl, iteF ?_⟩
      refine ⟨_, rfl, _, _, _, _, false, rfl, .ty "tuple", .base (.int z), kit_ty (by decide +kernel), _, rfl, iteF ?_⟩
      refine ⟨_, rfl, _, _, _, _, true, rfl, .ty "int", .base (.int z), kit_ty (by decide +kernel), _, rfl, iteT ?_⟩
      refine ⟨_, rfl, _, _, _, _, false, rfl, .ty "bool", .base (.int z), kit_ty (by decide +kernel), _, rfl, _, rfl, iteT ?_⟩
      refine ⟨_, rfl, _, rfl, rfl, ?_⟩
      rw [decide_eq_true rfl]
      exact k
    · refine ⟨_, rfl, rfl, _, rfl, iteT ?_⟩
      exact ⟨_, rfl, rfl, k⟩
def sp_law_same : Sp := fun vs H Q _ => (∃ (a b : Addr) (i : Fin 8) (R : List (Option (GF i))), vs = [.ref a, .ref b] ∧ H a = some (.lst (vr R)) ∧ H b = some (.lst (vr R)) ∧ R.length ≤ 10000 ∧ Q (.bl true) H) ∨ (vs = [.non, .non] ∧ Q (.bl true) H)
theorem ok_law_same {f : Addr} {fd' : FuncData} (F : Fun K "_law_same" "_law_same" s_l_law_same f fd') (T : Txt K mg CF CE CI) (mg_l_law_same : mg "_law_same" = some (.ref f)) (kp_l_law_same : PySem.W.keepIn K (.ref f) = true) (b_l_law_same : Binds K fd' ["_law_actual", "_law_due"] []) :
    FnOk P w K mg base CX0 2 f fd' ["_law_actual", "_law_due"] sp_law_same := by
  have ok_l_law_same : FnOk P w K mg base CX0 1 f fd' ["_law_actual", "_law_due"] sp_same1 := ok_same1 F T mg_l_law_same kp_l_law_same b_l_law_same
  refine F.ok sc_l_law_same (fun vs H Q E h => ?_) (fun cdv A outer s H vs Q E hr h => ?_)
  · rcases h with ⟨a, b, i, R, rfl, _⟩ | ⟨rfl, _⟩ <;> rfl
  · refine ⟨_, (pss_cons (ps_if (pt_cmpR op_isN (pv 1) pe_non (nomark _)) (pss_one (ps_ret (pe_cmpR op_isN (pv 0) pe_non (nomark _)))) pss_nil)
      (pss_cons (ps_if (pt_val (pe_callB call_isi (by rfl) T.n_isinstance bt_isinstance (pa_cons (pv 1) (pa_cons (pe_bltn (v := .ty "list") (by rfl) T.n_list bt_list rfl) pa_nil)))) (pss_cons (ps_if (PW.pt (pw_or (pt_not (pt_val (pe_callB call_isi (by rfl) T.n_isinstance bt_isinstance (pa_cons (pv 0) (pa_cons (pe_bltn (v := .ty "list") (by rfl) T.n_list bt_list rfl) pa_nil))))) (pw_or1 (pt_cmpR op_ne (pe_callB call_len_seq (by rfl) T.n_len bt_len (pa_cons (pv 0) pa_nil)) (pe_callB call_len_seq (by rfl) T.n_len bt_len (pa_cons (pv 1) pa_nil)) (nomark _))))) (pss_one (ps_ret pe_bl)) pss_nil)
      (pss_cons (ps_for PassesOwn.never rfl (pi_range1 (by rfl) T.n_range (pa_cons (pe_callB call_len_seq (by rfl) T.n_len bt_len (pa_cons (pv 1) pa_nil)) pa_nil)) (pg_name (i := 2) sc_l_law_same.nd rfl (Or.inl rfl)) (pss_one (ps_if (pt_not (pt_val (pe_call ok_l_law_same (hr.mono (by decide)) (by rfl) mg_l_law_same kp_l_law_same b_l_law_same .nil pass0 (pa_cons (pe_ix ix_list (pv 0) (pv 2) (fun _ _ => rfl)) (pa_cons (pe_ix ix_list (pv 1) (pv 2) (fun _ _ => rfl)) pa_nil))))) (pss_one (ps_ret pe_bl)) pss_nil)))
      (pss_one (ps_ret pe_bl)))) pss_nil)
      (pss_cons (ps_if (pt_val (pe_callB call_isi (by rfl) T.n_isinstance bt_isinstance (pa_cons (pv 1) (pa_cons (pe_bltn (v := .ty "tuple") (by rfl) T.n_tuple bt_tuple rfl) pa_nil)))) (pss_cons (ps_if (PW.pt (pw_or (pt_not (pt_val (pe_callB call_isi (by rfl) T.n_isinstance bt_isinstance (pa_cons (pv 0) (pa_cons (pe_bltn (v := .ty "tuple") (by rfl) T.n_tuple bt_tuple rfl) pa_nil))))) (pw_or1 (pt_cmpR op_ne (pe_callB call_len_seq (by rfl) T.n_len bt_len (pa_cons (pv 0) pa_nil)) (pe_callB call_len_seq (by rfl) T.n_len bt_len (pa_cons (pv 1) pa_nil)) (nomark _))))) (pss_one (ps_ret pe_bl)) pss_nil)
      (pss_cons (ps_for PassesOwn.never rfl (pi_range1 (by rfl) T.n_range (pa_cons (pe_callB call_len_seq (by rfl) T.n_len bt_len (pa_cons (pv 1) pa_nil)) pa_nil)) (pg_name (i := 2) sc_l_law_same.nd rfl (Or.inl rfl)) (pss_one (ps_if (pt_not (pt_val (pe_call ok_l_law_same (hr.mono (by decide)) (by rfl) mg_l_law_same kp_l_law_same b_l_law_same .nil pass0 (pa_cons (pe_ix ix_list (pv 0) (pv 2) (fun _ _ => rfl)) (pa_cons (pe_ix ix_list (pv 1) (pv 2) (fun _ _ => rfl)) pa_nil))))) (pss_one (ps_ret pe_bl)) pss_nil)))
      (pss_one (ps_ret pe_bl)))) pss_nil)
      (pss_one (ps_ret (pe_and (pe_callB call_isi (by rfl) T.n_isinstance bt_isinstance (pa_cons (pv 0) (pa_cons (pe_bltn (v := .ty "int") (by rfl) T.n_int bt_int rfl) pa_nil))) (pe_and (pe_not (pe_callB call_isi (by rfl) T.n_isinstance bt_isinstance (pa_cons (pv 0) (pa_cons (pe_bltn (v := .ty "bool") (by rfl) T.n_bool bt_bool rfl) pa_nil)))) (pe_one (pe_cmpR op_eq (pv 0) (pv 1) (nomark _)))))))))), ?_⟩
    rcases h with ⟨a, b, i, R, rfl, ha, hb, hR, k⟩ | ⟨rfl, k⟩
    · refine ⟨_, rfl, rfl, _, rfl, iteF ?_⟩
      refine ⟨_, rfl, _, _, _, _, true, rfl, .ty "list", .base (.lst hb), kit_ty (by decide +kernel), _, rfl, iteT ?_⟩
      refine ⟨_, rfl, _, _, _, _, true, rfl, .ty "list", .base (.lst ha), kit_ty (by decide +kernel), _, rfl, iteF ?_⟩
      refine ⟨_, rfl, a, _, rfl, .inl (SqL.of ha), _, rfl, b, _, rfl, .inl (SqL.of hb), rfl, _, rfl, ?_⟩
      refine iteNS rfl ?_
      refine ⟨_, rfl, b, _, rfl, .inl (SqL.of hb), _, rfl, by omega, by rw [vr_len]; omega, ?_⟩
      rw [Int.toNat_natCast, vr_len]
      refine for_range (fun j σ H' => ∃ v, σ = [some (.ref a), some (.ref b), v] ∧ H' = H) ⟨none, rfl, rfl⟩ ?_ ?_
      · rintro j σ H' hj ⟨v, rfl, rfl⟩
        have ej : (0 : Int) + (j : Nat) = ((j : Nat) : Int) := by omega
        refine ⟨_, rfl, _, rfl, a, _, _, _, rfl, rfl, SqL.of ha, at_of ej (vr_at hj), _, rfl, _, rfl, b, _, _, _, rfl, rfl, SqL.of hb, at_of ej (vr_at hj), ?_⟩
        cases R.getD j none with
        | none => exact .inr ⟨rfl, _, rfl, iteF ⟨_, rfl, rfl⟩⟩
        | some c => exact .inl ⟨c.enc, rfl, _, rfl, iteF ⟨_, rfl, rfl⟩⟩
      · rintro σ H' ⟨v, rfl, rfl⟩
        exact k
    · refine ⟨_, rfl, rfl, _, rfl, iteT ?_⟩
      exact ⟨_, rfl, rfl, k⟩

/-! ### _law_told -/
abbrev s_l_law_told : Stmt := top 61
abbrev N_l_law_told : List Str := ["_law_code", "_law_received", "_law_passed", "_law_told_here", "e"]
theorem sc_l_law_told : FnScope N_l_law_told ["_law_code", "_law_received"] (defScope s_l_law_told) := ⟨rfl, rfl, rfl, by decide +kernel, rfl, by decide +kernel, by decide +kernel⟩
theorem mix_vr {i : Fin 8} (ws : List (List (GF i))) (n : Nat) (h : ∀ w ∈ ws, w.length = n) : mixL .non (ws.map ve) n = vr ((mixL 0 ws n).map some) := by
  unfold mixL
  rw [List.map_flatMap]
  show _ = List.map vo _
  rw [List.map_flatMap, List.flatMap_def, List.flatMap_def]
  congr 1
  apply List.map_congr_left
  intro k hk
  have hk := List.mem_range.mp hk
  rw [List.map_map, List.map_map, List.map_map]
  apply List.map_congr_left
  intro w hw
  have hl := h w hw
  show (ve w).getD k .non = vo (some (w.getD k 0))
  rw [List.getD_eq_getElem?_getD, ve_at (by omega)]
  rfl
def sp_law_told (K : PySem.W.Frag) (CF CE CI : Addr) : Sp := fun vs H Q _ => ∃ (ca l : Addr) (i : Fin 8) (pts : List (GF i)) (k d : Nat) (R : List (Option (GF i))), vs = [.ref ca, .ref l] ∧ InterAt K CF CE CI H ca i pts k d ∧ pts.Nodup ∧ 1 ≤ k ∧ pts.length ≤ 100 ∧ 1 ≤ d ∧ d ≤ 100 ∧ H l = some (.lst (vr R)) ∧ R.length = d * pts.length ∧
  match decN pts k d R d with
  | some ws => ∀ H' p, Same H H' → H' p = some (.lst (vr ((mixL 0 ws pts.length).map some))) → Q (.ref p) H'
  | none => ∀ H', Same H H' → Q .non H'
theorem ok_law_told {f : Addr} {fd' : FuncData} (F : Fun K "_law_told" "_law_told" s_l_law_told f fd') (T : Txt K mg CF CE CI) (TM : TooMany K mg CT) (TE : TooErr K mg CT CC CV)
    (c1 : Cal P w K mg base CX0 "_law_same" ["_law_actual", "_law_due"] 2 sp_law_same) (c2 : CalM P w K mg base (L2.CX P w) CI "corrected" ["self", "received"] 8 (sp_I_corrected K CF CE CI CT)) :
    FnOk P w K mg base CX0 9 f fd' ["_law_code", "_law_received"] (sp_law_told K CF CE CI) := by
  obtain ⟨f_l_law_same, _, ok_l_law_same, mg_l_law_same, kp_l_law_same, b_l_law_same⟩ := c1
  obtain ⟨f_ic, _, ok_InterleavedCode_corrected, m_InterleavedCode_corrected, b_InterleavedCode_corrected⟩ := c2
  refine F.ok sc_l_law_told (fun vs H Q E h => ?_) (fun cdv A outer s H vs Q E hr h => ?_)
  · obtain ⟨ca, l, i, pts, k, d, R, rfl, _⟩ := h; rfl
  · obtain ⟨ca, l, i, pts, kd, d, R, rfl, hI, nd, hk1, n100, hd1, hd2, hl, hR, kk⟩ := h
    refine ⟨_, (pss_cons (ps_set (i := 2) sc_l_law_told.nd rfl (Or.inl rfl) (pe_callTy call_list_of (by rfl) T.n_list bt_list (pa_cons (pv 1) pa_nil)))
      (pss_cons (ps_set (i := 3) sc_l_law_told.nd rfl (Or.inl rfl) pe_non)
      (pss_cons (ps_try_as (i := 4) (Wout := fun _ _ _ _ => False) rfl rfl sc_l_law_told.nd rfl rfl ⟨rfl, by decide, Or.inl TM.g⟩ takes0 (fun W pn xe tk _ => (pss_cons (ps_set (i := 3) sc_l_law_told.nd rfl (Or.inl rfl) (pe_methSt (pv 0) T.clI m_InterleavedCode_corrected ok_InterleavedCode_corrected (hr.mono (by decide)) b_InterleavedCode_corrected (fun σ => passAt tk σ) (pa_cons (pv 2) pa_nil)))
      (pss_cons (ps_if (pt_not (pt_val (pe_callB (call_isiK K rfl) (by rfl) T.n_isinstance bt_isinstance (pa_cons (pv 3) (pa_cons (pe_bltn (v := .ty "list") (by rfl) T.n_list bt_list rfl) pa_nil))))) (pss_one (ps_ret pe_int)) pss_nil)
      (pss_cons (ps_expr (pe_bmK K rfl PySem.F.plainAttrs_list PySem.F.slot_list_append PySem.F.type_list_append mt_append (pv 3) (pa_cons pe_non pa_nil)))
      (pss_cons (ps_set (i := 3) sc_l_law_told.nd rfl (Or.inl rfl) (pe_methSt (pv 0) T.clI m_InterleavedCode_corrected ok_InterleavedCode_corrected (hr.mono (by decide)) b_InterleavedCode_corrected (fun σ => passAt tk σ) (pa_cons (pv 2) pa_nil)))
      (pss_one (ps_if (pt_not (pt_val (pe_callB (call_isiK K rfl) (by rfl) T.n_isinstance bt_isinstance (pa_cons (pv 3) (pa_cons (pe_bltn (v := .ty "list") (by rfl) T.n_list bt_list rfl) pa_nil))))) (pss_one (ps_ret pe_int)) pss_nil))))))) (fun a oe cls d pn hz hf => (pss_one (ps_if (PW.pt (pw_or (pt_not (pt_val (pe_callB (call_isEK K rfl TE.c hz hf) (by rfl) T.n_isinstance bt_isinstance (pa_cons (pv 4) (pa_cons (pe_glob (v := .ref CC) (by rfl) TE.g_CodeError rfl) pa_nil))))) (pw_or1 (pt_val (pe_callB (call_isEK K rfl TE.c hz hf) (by rfl) T.n_isinstance bt_isinstance (pa_cons (pv 4) (pa_cons (pe_glob (v := .ref CV) (by rfl) TE.g_InvalidWord rfl) pa_nil))))))) (pss_one (ps_ret pe_int)) pss_nil))))
      (pss_cons (ps_if (pt_not (pt_val (pe_call ok_l_law_same (hr.mono (by decide)) (by rfl) mg_l_law_same kp_l_law_same b_l_law_same .nil pass0 (pa_cons (pv 2) (pa_cons (pv 1) pa_nil))))) (pss_one (ps_ret pe_int)) pss_nil)
      (pss_one (ps_ret (pv 3))))))), ?_⟩
    have hR4 : R.length ≤ 10000 := by rw [hR]; exact Nat.le_trans (Nat.mul_le_mul hd2 n100) (by decide)
    obtain ⟨dx, ea, fa, bm, bf, hc, hF, hE⟩ := id hI
    refine ⟨_, rfl, l, _, rfl, .inl (SqL.of hl), fun p hp => ?_⟩
    have s1 := newS (o := .lst (vr R)) hp
    have hp1 : upd H p (.lst (vr R)) p = some (.lst (vr R)) := upd_same
    generalize upd H p (.lst (vr R)) = H1 at s1 hp1
    -- told = code.corrected(passed)
    refine ⟨_, rfl, ca, dx, _, rfl, s1 _ _ hc, fI_corrected _ _ _ _ _ _, _, rfl, ca, p, i, pts, kd, d, R, rfl, interS s1 hI, nd, hk1, n100, hd1, hd2, SqL.of hp1, hR, ?_⟩
    cases hdec : decN pts kd d R d with
    | none =>
      rw [hdec] at kk
      intro H2 s2
      refine ⟨true, TE.te, fun _ a ha => ?_, fun q => Bool.noConfusion q⟩
      refine ⟨_, rfl, rfl, rfl, _, _, true, rfl, fun u h => h, TE.kC, _, rfl, iteF ?_⟩
      refine ⟨_, rfl, rfl, rfl, _, _, false, rfl, fun u h => h, TE.kV, _, rfl, iteF ?_⟩
      refine ⟨_, rfl, _, rfl, .inl ⟨p, l, i, R, rfl, s2 _ _ hp1, s2 _ _ (s1 _ _ hl), hR4, _, rfl, iteF ?_⟩⟩
      exact ⟨_, rfl, kk _ (s1.trans s2)⟩
    | some ws =>
      rw [hdec] at kk
      obtain ⟨hwl, hwlen⟩ := decN_length d hdec
      intro H2 q s2 nq hq2
      refine ⟨_, rfl, _, _, _, _, true, rfl, .ty "list", .base (.lst hq2), kit_ty (by decide +kernel), _, rfl, iteF ?_⟩
      refine ⟨_, rfl, .inl ⟨rfl, _, SqL.of hq2⟩, q, _, _, rfl, rfl, hq2, smallLt ?_, ?_⟩
      · rw [mixL_length, List.length_map, hwl]
        exact Nat.lt_of_le_of_lt (Nat.mul_le_mul n100 hd2) (by decide)
      have s3 : Same H1 (upd H2 q (.lst (mixL .non (ws.map ve) pts.length ++ [.non]))) := mutS s2 nq
      generalize upd H2 q (.lst (mixL .non (ws.map ve) pts.length ++ [.non])) = H3 at s3
      refine ⟨_, rfl, ca, dx, _, rfl, s3 _ _ (s1 _ _ hc), fI_corrected _ _ _ _ _ _, _, rfl, ca, p, i, pts, kd, d, R, rfl, interS (s1.trans s3) hI, nd, hk1, n100, hd1, hd2, SqL.of (s3 _ _ hp1), hR, ?_⟩
      rw [hdec]
      intro H4 r s4 nr hr4
      refine ⟨_, rfl, _, _, _, _, true, rfl, .ty "list", .base (.lst hr4), kit_ty (by decide +kernel), _, rfl, iteF ?_⟩
      refine ⟨_, rfl, _, rfl, .inl ⟨p, l, i, R, rfl, s4 _ _ (s3 _ _ hp1), s4 _ _ (s3 _ _ (s1 _ _ hl)), hR4, _, rfl, iteF ?_⟩⟩
      exact ⟨_, rfl, kk _ r ((s1.trans s3).trans s4) (by rw [hr4, mix_vr ws _ hwlen])⟩
end
end NW

set_option Elab.async false
set_option linter.all false
set_option maxRecDepth 100000
set_option maxHeartbeats 4000000
namespace NW
open PySem L2 GP
section
variable {i : Fin 8}
theorem ve_vr (W : List (GF i)) : ve W = vr (W.map some) := by
  show List.map V.int (W.map GF.enc) = List.map vo (W.map some)
  rw [List.map_map, List.map_map]
  rfl
theorem vr_set (R : List (Option (GF i))) (j : Nat) (o : Option (GF i)) : (vr R).set j (vo o) = vr (R.set j o) := (List.map_set ..).symm
theorem getD_set {α : Type} (R : List α) (j m : Nat) (x z : α) (h : j < R.length) : (R.set j x).getD m z = if j = m then x else R.getD m z := by
  rw [List.getD_eq_getElem?_getD, List.getElem?_set, List.getD_eq_getElem?_getD]
  by_cases e : j = m
  · rw [if_pos e, if_pos (by omega), if_pos e]; rfl
  · rw [if_neg e, if_neg e]
theorem getD_map_some (W : List (GF i)) (j : Nat) (h : j < W.length) : (W.map some).getD j none = some (W.getD j 0) := by
  rw [List.getD_eq_getElem?_getD, List.getElem?_map, List.getD_eq_getElem?_getD, List.getElem?_eq_getElem h]; rfl
/-- the received list differs from the word at the places b .. b + m - 1 alone, by f -/
def Win (b m : Nat) (W : List (GF i)) (R : List (Option (GF i))) (f : Option (GF i) → Prop) : Prop := R.length = W.length ∧ ∀ j, j < W.length → (¬ (b ≤ j ∧ j < b + m) → R.getD j none = some (W.getD j 0)) ∧ (b ≤ j ∧ j < b + m → f (R.getD j none))
theorem Win.zero (b : Nat) (W : List (GF i)) (f : Option (GF i) → Prop) : Win b 0 W (W.map some) f := ⟨List.length_map _, fun j hj => ⟨fun _ => getD_map_some W j hj, fun h => by omega⟩⟩
theorem Win.skip {b m : Nat} {W : List (GF i)} {R : List (Option (GF i))} {f : Option (GF i) → Prop} (h : Win b m W R f) (hf : b + m < W.length → f (some (W.getD (b + m) 0))) : Win b (m + 1) W R f := by
  refine ⟨h.1, fun j hj => ⟨fun hn => (h.2 j hj).1 (by omega), fun hn => ?_⟩⟩
  by_cases e : j = b + m
  · subst e
    rw [(h.2 _ hj).1 (by omega)]
    exact hf hj
  · exact (h.2 j hj).2 (by omega)
theorem Win.set {b m : Nat} {W : List (GF i)} {R : List (Option (GF i))} {f : Option (GF i) → Prop} (h : Win b m W R f) (hl : b + m < W.length) {o : Option (GF i)} (hf : f o) : Win b (m + 1) W (R.set (b + m) o) f := by
  refine ⟨by rw [List.length_set]; exact h.1, fun j hj => ?_⟩
  rw [getD_set _ _ _ _ _ (by rw [h.1]; exact hl)]
  refine ⟨fun hn => ?_, fun hn => ?_⟩
  · rw [if_neg (by omega)]
    exact (h.2 j hj).1 (by omega)
  · by_cases e : b + m = j
    · rw [if_pos e]; exact hf
    · rw [if_neg e]; exact (h.2 j hj).2 (by omega)
end
section
variable {P : Program} {w : World} {K : PySem.W.Frag} {mg : Str → Option Value} {base : Heap} {CF CE CI CT CC CV : Addr}

/-! ### _law_errors -/
abbrev s_l_law_errors : Stmt := top 62
abbrev N_l_law_errors : List Str := ["_law_word", "_law_order_here", "_law_numbers_here", "_law_many", "_law_at", "_law_received", "_law_begin", "_law_k", "_law_place"]
theorem sc_l_law_errors : FnScope N_l_law_errors ["_law_word", "_law_order_here", "_law_numbers_here", "_law_many", "_law_at"] (defScope s_l_law_errors) := ⟨rfl, rfl, rfl, by decide +kernel, rfl, by decide +kernel, by decide +kernel⟩
def sp_law_errors (K : PySem.W.Frag) : Sp := fun vs H Q _ => ∃ (l n : Addr) (i : Fin 8) (W : List (GF i)) (ns : List Int) (m at' : Nat), vs = [.ref l, .int (fq i), .ref n, .int m, .int at'] ∧ SqL K H l (ve W) ∧ SqL K H n (vi ns) ∧ m ≤ W.length ∧ W.length ≤ 10000 ∧ at' + 12 ≤ ns.length ∧
  ∀ (b : Nat) (R : List (Option (GF i))), b + m ≤ W.length → Win b m W R (fun o => o ≠ none) → ∀ H' p, Same H H' → H' p = some (.lst (vr R)) → Q (.ref p) H'
theorem ok_law_errors {f : Addr} {fd' : FuncData} (F : Fun K "_law_errors" "_law_errors" s_l_law_errors f fd') (T : Txt K mg CF CE CI) : FnOk P w K mg base CX0 1 f fd' ["_law_word", "_law_order_here", "_law_numbers_here", "_law_many", "_law_at"] (sp_law_errors K) := by
  refine F.ok sc_l_law_errors (fun vs H Q E h => ?_) (fun cdv A outer s H vs Q E hr h => ?_)
  · obtain ⟨l, n, i, W, ns, m, at', rfl, _⟩ := h; rfl
  · obtain ⟨l, n, i, W, ns, m, at', rfl, hl, hn, hm, hW, hat, k⟩ := h
    have q9 := fq_le i
    have q2 := fq_ge i
    refine ⟨_, (pss_cons (ps_set (i := 5) sc_l_law_errors.nd rfl (Or.inl rfl) (pe_callTy call_list_of (by rfl) T.n_list bt_list (pa_cons (pv 0) pa_nil)))
      (pss_cons (ps_set (i := 6) sc_l_law_errors.nd rfl (Or.inl rfl) (pe_op op_mod (pe_callTy call_intI (by rfl) T.n_int bt_int (pa_cons (pe_ix ix_list (pv 2) (pv 4) (fun _ _ => rfl)) pa_nil)) (pe_op op_add (pe_op op_sub (pe_callB call_len_seq (by rfl) T.n_len bt_len (pa_cons (pv 0) pa_nil)) (pv 3)) pe_int)))
      (pss_cons (ps_for PassesOwn.never rfl (pi_range1 (by rfl) T.n_range (pa_cons (pv 3) pa_nil)) (pg_name (i := 7) sc_l_law_errors.nd rfl (Or.inl rfl)) (pss_cons (ps_set (i := 8) sc_l_law_errors.nd rfl (Or.inl rfl) (pe_op op_add (pv 6) (pv 7)))
      (pss_one (ps_if (pt_cmpR op_gt (pe_op op_mod (pe_callTy call_intI (by rfl) T.n_int bt_int (pa_cons (pe_ix ix_list (pv 2) (pe_op op_add (pe_op op_add (pv 4) pe_int) (pe_op op_mod (pe_callTy call_intI (by rfl) T.n_int bt_int (pa_cons (pv 7) pa_nil)) pe_int)) (fun _ _ => rfl)) pa_nil)) pe_int) pe_int (nomark _)) (pss_one (ps_asg (pe_op op_mod (pe_callTy call_intI (by rfl) T.n_int bt_int (pa_cons (pe_op op_add (pe_op op_add (pe_ix ix_list (pv 0) (pv 8) (fun _ _ => rfl)) pe_int) (pe_op op_mod (pe_callTy call_intI (by rfl) T.n_int bt_int (pa_cons (pe_ix ix_list (pv 2) (pe_op op_add (pe_op op_add (pv 4) pe_int) (pe_op op_mod (pe_callTy call_intI (by rfl) T.n_int bt_int (pa_cons (pv 7) pa_nil)) pe_int)) (fun _ _ => rfl)) pa_nil)) (pe_op op_sub (pv 1) pe_int))) pa_nil)) (pv 1)) (pg_sub (pv 5) (pv 8) set_list))) pss_nil))))
      (pss_one (ps_ret (pv 5)))))), ?_⟩
    refine ⟨_, rfl, l, _, rfl, .inl hl, fun p hp => ?_⟩
    have s1 := newS (o := .lst (ve W)) hp
    have hp1 : upd H p (.lst (ve W)) p = some (.lst (vr (W.map some))) := by rw [upd_same, ve_vr]
    generalize upd H p (.lst (ve W)) = H1 at s1 hp1
    have hpos : (0 : Int) < ((ve W).length : Nat) - (m : Nat) + 1 := by rw [ve_len]; omega
    refine ⟨_, rfl, _, rfl, n, _, _, _, rfl, rfl, s1.seq hn, at_nat (vi_at (j := at') (by omega)), _, rfl, _, rfl, l, _, rfl, .inl (s1.seq hl), _, rfl, _, _, rfl, rfl, _, _, rfl, rfl, _, _, rfl, rfl, hpos, ?_⟩
    obtain ⟨b, eb, hb⟩ : ∃ b : Nat, (ns.getD at' 0) % (((ve W).length : Nat) - (m : Nat) + 1 : Int) = (b : Int) ∧ b + m ≤ W.length := by
      have h0 := Int.emod_nonneg (ns.getD at' 0) (show (((ve W).length : Nat) - (m : Nat) + 1 : Int) ≠ 0 by omega)
      have h1 := Int.emod_lt_of_pos (ns.getD at' 0) hpos
      refine ⟨((ns.getD at' 0) % (((ve W).length : Nat) - (m : Nat) + 1 : Int)).toNat, by omega, ?_⟩
      rw [ve_len] at *
      omega
    simp only [eb]
    refine ⟨_, rfl, _, rfl, by omega, by omega, ?_⟩
    rw [Int.toNat_natCast]
    refine for_range (fun j σ H' => ∃ (v7 v8 : Option V) (R : List (Option (GF i))), σ = [some (.ref l), some (.int (fq i)), some (.ref n), some (.int m), some (.int at'), some (.ref p), some (.int b), v7, v8] ∧ Same H H' ∧ H' p = some (.lst (vr R)) ∧ Win b j W R (fun o => o ≠ none))
      ⟨none, none, W.map some, rfl, s1, hp1, Win.zero b W _⟩ ?_ ?_
    · rintro j σ H' hj ⟨v7, v8, R, rfl, s2, hp2, hw⟩
      have ep : ((b : Nat) : Int) + (0 + (j : Nat)) = ((b + j : Nat) : Int) := by omega
      have e6 : ((at' : Nat) : Int) + 1 + (0 + (j : Nat)) % 6 = ((at' + 1 + j % 6 : Nat) : Int) := by omega
      have e5 : ((at' : Nat) : Int) + 7 + (0 + (j : Nat)) % 5 = ((at' + 7 + j % 5 : Nat) : Int) := by omega
      refine ⟨_, rfl, _, rfl, _, _, rfl, rfl, ?_⟩
      refine ⟨_, rfl, _, rfl, _, _, rfl, rfl, _, rfl, _, rfl, _, _, rfl, rfl, (by show (0 : Int) < 6; decide), _, _, rfl, rfl, n, _, _, _, rfl, rfl, s2.seq hn, at_of e6 (vi_at (by omega)), _, rfl, _, _, rfl, rfl, (by show (0 : Int) < 4; decide), _, _, rfl, rfl, _, rfl, ite2 (fun cc => ?_) fun cc => ?_⟩
      · refine ⟨_, rfl, _, rfl, l, _, _, _, rfl, rfl, s2.seq hl, at_of ep (ve_at (by omega)), _, _, rfl, rfl, _, rfl, _, rfl, _, _, rfl, rfl, _, rfl, _, rfl, _, _, rfl, rfl, (by show (0 : Int) < 5; decide), _, _, rfl, rfl, n, _, _, _, rfl, rfl, s2.seq hn, at_of e5 (vi_at (by omega)), _, rfl, _, rfl, _, _, rfl, rfl, _, _, rfl, rfl, (by omega), _, _, rfl, rfl, _, rfl, _, rfl, _, _, rfl, rfl, (by omega), ?_⟩
        refine ⟨_, rfl, _, rfl, p, _, _, _, rfl, rfl, hp2, ixN_of ep (by rw [vr_len, hw.1]; omega), ?_⟩
        generalize hz : ((W.getD (b + j) 0).enc + 1 + (ns.getD (at' + 7 + j % 5) 0) % ((fq i : Int) - 1)) = z
        obtain ⟨c, hc⟩ := GF.enc_surj (i := i) (Int.emod_nonneg z (show (fq i : Int) ≠ 0 by omega)) (Int.emod_lt_of_pos z (show (0 : Int) < fq i by omega))
        refine ⟨_, _, R.set (b + j) (some c), rfl, mutS s2 hp, ?_, hw.set (by omega) (by simp)⟩
        rw [upd_same, ← vr_set]
        show some (HO.lst ((vr R).set (b + j) (.int (z % (fq i : Int))))) = _
        rw [← hc]
        rfl
      · exact ⟨_, _, R, rfl, s2, hp2, hw.skip fun _ => by simp⟩
    · rintro σ H' ⟨v7, v8, R, rfl, s2, hp2, hw⟩
      exact ⟨_, rfl, k b R hb hw _ p s2 hp2⟩

/-! ### _law_erased -/
abbrev s_l_law_erased : Stmt := top 63
abbrev N_l_law_erased : List Str := ["_law_word", "_law_numbers_here", "_law_many", "_law_at", "_law_received", "_law_begin", "_law_k"]
theorem sc_l_law_erased : FnScope N_l_law_erased ["_law_word", "_law_numbers_here", "_law_many", "_law_at"] (defScope s_l_law_erased) := ⟨rfl, rfl, rfl, by decide +kernel, rfl, by decide +kernel, by decide +kernel⟩
def sp_law_erased (K : PySem.W.Frag) : Sp := fun vs H Q _ => ∃ (l n : Addr) (i : Fin 8) (W : List (GF i)) (ns : List Int) (m at' : Nat), vs = [.ref l, .ref n, .int m, .int at'] ∧ SqL K H l (ve W) ∧ SqL K H n (vi ns) ∧ m ≤ W.length ∧ W.length ≤ 10000 ∧ at' + 1 ≤ ns.length ∧
  ∀ (b : Nat) (R : List (Option (GF i))), b + m ≤ W.length → Win b m W R (fun o => o = none) → ∀ H' p, Same H H' → H' p = some (.lst (vr R)) → Q (.ref p) H'
theorem ok_law_erased {f : Addr} {fd' : FuncData} (F : Fun K "_law_erased" "_law_erased" s_l_law_erased f fd') (T : Txt K mg CF CE CI) : FnOk P w K mg base CX0 1 f fd' ["_law_word", "_law_numbers_here", "_law_many", "_law_at"] (sp_law_erased K) := by
  refine F.ok sc_l_law_erased (fun vs H Q E h => ?_) (fun cdv A outer s H vs Q E hr h => ?_)
  · obtain ⟨l, n, i, W, ns, m, at', rfl, _⟩ := h; rfl
  · obtain ⟨l, n, i, W, ns, m, at', rfl, hl, hn, hm, hW, hat, k⟩ := h
    refine ⟨_, (pss_cons (ps_set (i := 4) sc_l_law_erased.nd rfl (Or.inl rfl) (pe_callTy call_list_of (by rfl) T.n_list bt_list (pa_cons (pv 0) pa_nil)))
      (pss_cons (ps_set (i := 5) sc_l_law_erased.nd rfl (Or.inl rfl) (pe_op op_mod (pe_callTy call_intI (by rfl) T.n_int bt_int (pa_cons (pe_ix ix_list (pv 1) (pv 3) (fun _ _ => rfl)) pa_nil)) (pe_op op_add (pe_op op_sub (pe_callB call_len_seq (by rfl) T.n_len bt_len (pa_cons (pv 0) pa_nil)) (pv 2)) pe_int)))
      (pss_cons (ps_for PassesOwn.never rfl (pi_range1 (by rfl) T.n_range (pa_cons (pv 2) pa_nil)) (pg_name (i := 6) sc_l_law_erased.nd rfl (Or.inl rfl)) (pss_one (ps_asg pe_non (pg_sub (pv 4) (pe_op op_add (pv 5) (pv 6)) set_list))))
      (pss_one (ps_ret (pv 4)))))), ?_⟩
    refine ⟨_, rfl, l, _, rfl, .inl hl, fun p hp => ?_⟩
    have s1 := newS (o := .lst (ve W)) hp
    have hp1 : upd H p (.lst (ve W)) p = some (.lst (vr (W.map some))) := by rw [upd_same, ve_vr]
    generalize upd H p (.lst (ve W)) = H1 at s1 hp1
    have hpos : (0 : Int) < ((ve W).length : Nat) - (m : Nat) + 1 := by rw [ve_len]; omega
    refine ⟨_, rfl, _, rfl, n, _, _, _, rfl, rfl, s1.seq hn, at_nat (vi_at (j := at') (by omega)), _, rfl, _, rfl, l, _, rfl, .inl (s1.seq hl), _, rfl, _, _, rfl, rfl, _, _, rfl, rfl, _, _, rfl, rfl, hpos, ?_⟩
    obtain ⟨b, eb, hb⟩ : ∃ b : Nat, (ns.getD at' 0) % (((ve W).length : Nat) - (m : Nat) + 1 : Int) = (b : Int) ∧ b + m ≤ W.length := by
      have h0 := Int.emod_nonneg (ns.getD at' 0) (show (((ve W).length : Nat) - (m : Nat) + 1 : Int) ≠ 0 by omega)
      have h1 := Int.emod_lt_of_pos (ns.getD at' 0) hpos
      refine ⟨((ns.getD at' 0) % (((ve W).length : Nat) - (m : Nat) + 1 : Int)).toNat, by omega, ?_⟩
      rw [ve_len] at *
      omega
    simp only [eb]
    refine ⟨_, rfl, _, rfl, by omega, by omega, ?_⟩
    rw [Int.toNat_natCast]
    refine for_range (fun j σ H' => ∃ (v7 : Option V) (R : List (Option (GF i))), σ = [some (.ref l), some (.ref n), some (.int m), some (.int at'), some (.ref p), some (.int b), v7] ∧ Same H H' ∧ H' p = some (.lst (vr R)) ∧ Win b j W R (fun o => o = none))
      ⟨none, W.map some, rfl, s1, hp1, Win.zero b W _⟩ ?_ ?_
    · rintro j σ H' hj ⟨v7, R, rfl, s2, hp2, hw⟩
      have ep : ((b : Nat) : Int) + (0 + (j : Nat)) = ((b + j : Nat) : Int) := by omega
      refine ⟨_, rfl, _, rfl, _, rfl, _, _, rfl, rfl, p, _, _, _, rfl, rfl, hp2, ixN_of ep (by rw [vr_len, hw.1]; omega), ?_⟩
      refine ⟨_, R.set (b + j) none, rfl, mutS s2 hp, ?_, hw.set (by omega) rfl⟩
      rw [upd_same, ← vr_set]
      rfl
    · rintro σ H' ⟨v7, R, rfl, s2, hp2, hw⟩
      exact ⟨_, rfl, k b R hb hw _ p s2 hp2⟩

/-! ### _law_any -/
abbrev s_l_law_any : Stmt := top 64
abbrev N_l_law_any : List Str := ["_law_word", "_law_order_here", "_law_numbers_here", "_law_at", "_law_received", "_law_k", "_law_number"]
theorem sc_l_law_any : FnScope N_l_law_any ["_law_word", "_law_order_here", "_law_numbers_here", "_law_at"] (defScope s_l_law_any) := ⟨rfl, rfl, rfl, by decide +kernel, rfl, by decide +kernel, by decide +kernel⟩
def sp_law_any (K : PySem.W.Frag) : Sp := fun vs H Q _ => ∃ (l n : Addr) (i : Fin 8) (W : List (GF i)) (ns : List Int) (at' : Nat), vs = [.ref l, .int (fq i), .ref n, .int at'] ∧ SqL K H l (ve W) ∧ SqL K H n (vi ns) ∧ W.length ≤ 10000 ∧ at' + 20 ≤ ns.length ∧
  ∀ (R : List (Option (GF i))), R.length = W.length → ∀ H' p, Same H H' → H' p = some (.lst (vr R)) → Q (.ref p) H'
theorem ok_law_any {f : Addr} {fd' : FuncData} (F : Fun K "_law_any" "_law_any" s_l_law_any f fd') (T : Txt K mg CF CE CI) : FnOk P w K mg base CX0 1 f fd' ["_law_word", "_law_order_here", "_law_numbers_here", "_law_at"] (sp_law_any K) := by
  refine F.ok sc_l_law_any (fun vs H Q E h => ?_) (fun cdv A outer s H vs Q E hr h => ?_)
  · obtain ⟨l, n, i, W, ns, at', rfl, _⟩ := h; rfl
  · obtain ⟨l, n, i, W, ns, at', rfl, hl, hn, hW, hat, k⟩ := h
    have q9 := fq_le i
    have q2 := fq_ge i
    refine ⟨_, (pss_cons (ps_set (i := 4) sc_l_law_any.nd rfl (Or.inl rfl) (pe_callTy call_list_of (by rfl) T.n_list bt_list (pa_cons (pv 0) pa_nil)))
      (pss_cons (ps_for PassesOwn.never rfl (pi_range1 (by rfl) T.n_range (pa_cons (pe_callB call_len_seq (by rfl) T.n_len bt_len (pa_cons (pv 0) pa_nil)) pa_nil)) (pg_name (i := 5) sc_l_law_any.nd rfl (Or.inl rfl)) (pss_cons (ps_set (i := 6) sc_l_law_any.nd rfl (Or.inl rfl) (pe_op op_add (pe_ix ix_list (pv 2) (pe_op op_add (pv 3) (pe_op op_mod (pe_callTy call_intI (by rfl) T.n_int bt_int (pa_cons (pv 5) pa_nil)) pe_int)) (fun _ _ => rfl)) (pe_op op_mul pe_int (pe_op op_fdiv (pv 5) pe_int))))
      (pss_cons (ps_if (pt_cmpR op_eq (pe_op op_mod (pe_callTy call_intI (by rfl) T.n_int bt_int (pa_cons (pv 6) pa_nil)) pe_int) pe_int (nomark _)) (pss_one (ps_asg (pe_op op_mod (pe_callTy call_intI (by rfl) T.n_int bt_int (pa_cons (pe_op op_add (pe_op op_add (pe_ix ix_list (pv 0) (pv 5) (fun _ _ => rfl)) pe_int) (pe_op op_mod (pe_callTy call_intI (by rfl) T.n_int bt_int (pa_cons (pe_op op_fdiv (pv 6) pe_int) pa_nil)) (pe_op op_sub (pv 1) pe_int))) pa_nil)) (pv 1)) (pg_sub (pv 4) (pv 5) set_list))) pss_nil)
      (pss_one (ps_if (pt_cmpR op_eq (pe_op op_mod (pe_callTy call_intI (by rfl) T.n_int bt_int (pa_cons (pv 6) pa_nil)) pe_int) pe_int (nomark _)) (pss_one (ps_asg pe_non (pg_sub (pv 4) (pv 5) set_list))) pss_nil)))))
      (pss_one (ps_ret (pv 4))))), ?_⟩
    refine ⟨_, rfl, l, _, rfl, .inl hl, fun p hp => ?_⟩
    have s1 := newS (o := .lst (ve W)) hp
    have hp1 : upd H p (.lst (ve W)) p = some (.lst (vr (W.map some))) := by rw [upd_same, ve_vr]
    generalize upd H p (.lst (ve W)) = H1 at s1 hp1
    refine ⟨_, rfl, l, _, rfl, .inl (s1.seq hl), _, rfl, by omega, by rw [ve_len]; omega, ?_⟩
    rw [Int.toNat_natCast, ve_len]
    refine for_range (fun j σ H' => ∃ (v5 v6 : Option V) (R : List (Option (GF i))), σ = [some (.ref l), some (.int (fq i)), some (.ref n), some (.int at'), some (.ref p), v5, v6] ∧ Same H H' ∧ H' p = some (.lst (vr R)) ∧ R.length = W.length)
      ⟨none, none, W.map some, rfl, s1, hp1, List.length_map _⟩ ?_ ?_
    · rintro j σ H' hj ⟨v5, v6, R, rfl, s2, hp2, hw⟩
      have ej : (0 : Int) + (j : Nat) = ((j : Nat) : Int) := by omega
      have e20 : ((at' : Nat) : Int) + (0 + (j : Nat)) % 20 = ((at' + j % 20 : Nat) : Int) := by omega
      refine ⟨_, rfl, _, rfl, _, rfl, _, rfl, _, _, rfl, rfl, (by show (0 : Int) < 20; decide), _, _, rfl, rfl, n, _, _, _, rfl, rfl, s2.seq hn, at_of e20 (vi_at (by omega)), _, rfl, _, _, rfl, rfl, ⟨by decide, by decide⟩, _, _, rfl, rfl, .inl ⟨by omega, by omega⟩, _, _, rfl, rfl, ?_⟩
      dsimp only
      generalize ns.getD (at' + j % 20) 0 + 11 * ((0 + (j : Nat)) / 20) = z
      -- the erasing
      have erase : ∀ (H2 : Hp) (R2 : List (Option (GF i))), Same H H2 → H2 p = some (.lst (vr R2)) → R2.length = W.length → ∃ (v5 v6 : Option V) (R : List (Option (GF i))), [some (.ref l), some (.int (fq i)), some (.ref n), some (.int at'), some (.ref p), some (.int (0 + (j : Nat))), some (.int z)] = [some (.ref l), some (.int (fq i)), some (.ref n), some (.int at'), some (.ref p), v5, v6] ∧ Same H H2 ∧ H2 p = some (.lst (vr R)) ∧ R.length = W.length :=
        fun H2 R2 a b c => ⟨_, _, R2, rfl, a, b, c⟩
      refine ⟨_, rfl, _, rfl, _, _, rfl, rfl, (by show (0 : Int) < 5; decide), rfl, _, rfl, ite2 (fun cc => ?_) fun cc => ?_⟩
      · refine ⟨_, rfl, _, rfl, l, _, _, _, rfl, rfl, s2.seq hl, at_of ej (ve_at (by omega)), _, _, rfl, rfl, _, rfl, _, _, rfl, rfl, ⟨by decide, by decide⟩, _, rfl, _, rfl, _, _, rfl, rfl, _, _, rfl, rfl, (by omega), _, _, rfl, rfl, _, rfl, _, rfl, _, _, rfl, rfl, (by omega), ?_⟩
        refine ⟨_, rfl, _, rfl, p, _, _, _, rfl, rfl, hp2, ixN_of ej (by rw [vr_len, hw]; omega), ?_⟩
        dsimp only
        generalize hz' : ((W.getD j 0).enc + 1 + (z / 5) % ((fq i : Int) - 1)) = z'
        obtain ⟨c, hc⟩ := GF.enc_surj (i := i) (Int.emod_nonneg z' (show (fq i : Int) ≠ 0 by omega)) (Int.emod_lt_of_pos z' (show (0 : Int) < fq i by omega))
        have s3 : Same H (upd H' p (.lst ((vr R).set j (.int (z' % (fq i : Int)))))) := mutS s2 hp
        have hp3 : upd H' p (.lst ((vr R).set j (.int (z' % (fq i : Int))))) p = some (.lst (vr (R.set j (some c)))) := by
          rw [upd_same, ← vr_set, ← hc]; rfl
        generalize upd H' p (.lst ((vr R).set j (.int (z' % (fq i : Int))))) = H3 at s3 hp3
        refine ⟨_, rfl, _, rfl, _, _, rfl, rfl, (by show (0 : Int) < 7; decide), rfl, _, rfl, ite2 (fun cc => ?_) fun cc => ?_⟩
        · refine ⟨_, rfl, _, rfl, p, _, _, _, rfl, rfl, hp3, ixN_of ej (by rw [vr_len, List.length_set, hw]; omega), ?_⟩
          exact ⟨_, _, (R.set j (some c)).set j none, rfl, mutS s3 hp, by rw [upd_same, ← vr_set (R.set j (some c)) j none]; rfl, by rw [List.length_set, List.length_set]; exact hw⟩
        · exact ⟨_, _, R.set j (some c), rfl, s3, hp3, by rw [List.length_set]; exact hw⟩
      · refine ⟨_, rfl, _, rfl, _, _, rfl, rfl, (by show (0 : Int) < 7; decide), rfl, _, rfl, ite2 (fun cc => ?_) fun cc => ?_⟩
        · refine ⟨_, rfl, _, rfl, p, _, _, _, rfl, rfl, hp2, ixN_of ej (by rw [vr_len, hw]; omega), ?_⟩
          exact ⟨_, _, R.set j none, rfl, mutS s2 hp, by rw [upd_same, ← vr_set]; rfl, by rw [List.length_set]; exact hw⟩
        · exact ⟨_, _, R, rfl, s2, hp2, hw⟩
    · rintro σ H' ⟨v5, v6, R, rfl, s2, hp2, hw⟩
      exact ⟨_, rfl, k R hw _ p s2 hp2⟩
end
end NW

set_option Elab.async false
set_option linter.all false
set_option maxRecDepth 100000
/-! What the decoder answers: the word of the message that is near enough, if one is. Bursts. Plain Lean. -/
namespace NW
open GP
section
variable {i : Fin 8}
theorem er_pls (R : List (Option (GF i))) : (pls R).length + er R = R.length := by
  have h : ∀ n, n ≤ R.length → (plsN R n).length + ((R.take n).filter Option.isNone).length = n := by
    intro n
    induction n with
    | zero => intro _; simp [plsN]
    | succ n ih =>
      intro hn
      have ih := ih (by omega)
      obtain ⟨o, ho⟩ : ∃ o, R[n]? = some o := ⟨R[n], List.getElem?_eq_getElem (by omega)⟩
      have hg : R.getD n none = o := by rw [List.getD_eq_getElem?_getD, ho]; rfl
      rw [plsN_succ, List.take_add_one, ho, List.filter_append, List.length_append, List.length_append]
      unfold known
      rw [hg]
      cases o with
      | none => simp; omega
      | some c => simp; omega
  have q := h R.length (Nat.le_refl _)
  rw [List.take_length] at q
  exact q
theorem filter_getD (l : List Nat) (q : Nat → Bool) : ((List.range l.length).filter fun j => q (l.getD j 0)).length = (l.filter q).length := by
  have e : l = (List.range l.length).map fun j => l.getD j 0 := by
    apply List.ext_getElem?
    intro j
    rw [List.getElem?_map]
    by_cases h : j < l.length
    · rw [List.getElem?_eq_getElem h, List.getElem?_eq_getElem (by rw [List.length_range]; exact h), List.getElem_range]
      show some l[j] = some (l.getD j 0)
      rw [List.getD_eq_getElem?_getD, List.getElem?_eq_getElem h]; rfl
    · rw [List.getElem?_eq_none (by omega), List.getElem?_eq_none (by rw [List.length_range]; omega)]; rfl
  have e2 : (l.filter q).length = (((List.range l.length).map fun j => l.getD j 0).filter q).length := by rw [← e]
  rw [e2, List.filter_map, List.length_map]
  rfl
theorem map_getD (pts : List (GF i)) (f : List (GF i)) (k : Nat) (h : k < pts.length) : (pts.map (ev f)).getD k 0 = ev f (pts.getD k 0) := by
  rw [List.getD_eq_getElem?_getD, List.getElem?_map, List.getD_eq_getElem?_getD, List.getElem?_eq_getElem h]; rfl
theorem errs_wrong (pts : List (GF i)) (R : List (Option (GF i))) (hl : R.length = pts.length) (f : List (GF i)) : errs (pts.map (ev f)) R = wrong (xsOf pts R) (ysOf R) f := by
  unfold wrong
  rw [xsOf_length]
  have e : ((List.range (pls R).length).filter fun j => decide (ev f ((xsOf pts R).getD j 0) ≠ (ysOf R).getD j 0)) = (List.range (pls R).length).filter fun j => (fun k => decide (ev f (pts.getD k 0) ≠ (R.getD k none).getD 0)) ((pls R).getD j 0) := by
    apply List.filter_congr
    intro j hj
    have hj := List.mem_range.mp hj
    unfold xsOf ysOf
    rw [List.getD_eq_getElem?_getD, List.getElem?_map, List.getD_eq_getElem?_getD (l := (pls R).map _), List.getElem?_map, List.getD_eq_getElem?_getD (l := pls R), List.getElem?_eq_getElem hj]
    rfl
  rw [e, filter_getD (pls R) fun k => decide (ev f (pts.getD k 0) ≠ (R.getD k none).getD 0)]
  unfold errs errsN pls plsN
  rw [List.filter_filter, List.length_map, hl]
  congr 1
  apply List.filter_congr
  intro k hk
  have hk := List.mem_range.mp hk
  unfold bad known
  cases hR : R.getD k none with
  | none => simp
  | some c =>
    simp only [map_getD pts f k hk, Option.isSome_some, Bool.and_true, Option.getD_some]
    by_cases h : c = ev f (pts.getD k 0)
    · simp [h]
    · have h' : ¬ (ev f (pts.getD k 0) = c) := fun z => h z.symm
      simp [h, h']
      exact ⟨fun z => z.symm, fun z => z.symm⟩
theorem ev_trimmed (pts f : List (GF i)) : pts.map (ev (trim f)) = pts.map (ev f) := List.map_congr_left fun x _ => ev_trim f x
theorem decode_near {pts : List (GF i)} (hn : pts.Nodup) {k : Nat} {R : List (Option (GF i))} (hl : R.length = pts.length) {f : List (GF i)} (hf : f.length ≤ k) (h : 2 * errs (pts.map (ev f)) R + k ≤ (pls R).length) : decode pts k R = some (pts.map (ev f)) := by
  have hx := xsOf_nodup hn hl
  have hxl := xsOf_length pts R
  have hb : ((pls R).length + k + 1) / 2 ≤ (xsOf pts R).length := by omega
  have hw := errs_wrong pts R hl (trim f)
  rw [ev_trimmed] at hw
  have g := gao hx (k := k) (bound := ((pls R).length + k + 1) / 2) (f := trim f) (by omega) (by rw [hxl]) (Tr.of_trim f) (Nat.le_trans (trim_length_le f) hf) (by rw [← hw]; omega) (key_facts hx (ys := ysOf R) hb)
  have h1 : (decQ pts k R).1 = trim f := g.1
  have h2 : (decQ pts k R).2 = [] := g.2
  have h3 : decW pts k R = pts.map (ev f) := by
    unfold decW
    rw [h1, ev_trimmed]
  unfold decode
  rw [if_neg (by omega), h3, if_pos ⟨by rw [h2]; rfl, by rw [h1]; exact Nat.le_trans (trim_length_le f) hf, by omega⟩]
theorem ev_pad (f : List (GF i)) (n : Nat) (x : GF i) : ev (f ++ List.replicate n 0) x = ev f x := by
  rw [ev_append, ev_zeros]; grind
theorem decode_some {pts : List (GF i)} {k : Nat} {R : List (Option (GF i))} {w : List (GF i)} (h : decode pts k R = some w) : ∃ f : List (GF i), f.length = k ∧ w = pts.map (ev f) ∧ 2 * errs w R + k ≤ (pls R).length := by
  unfold decode at h
  split at h
  · cases h
  · split at h
    · rename_i h1 h2
      obtain ⟨_, h3, h4⟩ := h2
      have e := Option.some.inj h
      subst e
      refine ⟨(decQ pts k R).1 ++ List.replicate (k - (decQ pts k R).1.length) 0, by rw [List.length_append, List.length_replicate]; omega, ?_, by omega⟩
      unfold decW
      exact List.map_congr_left fun x _ => (ev_pad _ _ x).symm
    · cases h
/-- near, as the law counts, is near as the decoder counts -/
theorem near_iff {k : Nat} {R : List (Option (GF i))} {w : List (GF i)} : near k R w ↔ 2 * errs w R + k ≤ (pls R).length := by
  have := er_pls R
  unfold near
  omega
/-- the words of all messages -/
def words (i : Fin 8) (pts : List (GF i)) (k : Nat) : List (List (GF i)) := (msgs i k).map fun m => pts.map (ev m)
theorem decode_word {pts : List (GF i)} (hn : pts.Nodup) {k : Nat} {R : List (Option (GF i))} (hl : R.length = pts.length) {w : List (GF i)} (hw : w ∈ words i pts k) (h : near k R w) : decode pts k R = some w := by
  obtain ⟨m, hm, rfl⟩ := List.mem_map.mp hw
  exact decode_near hn hl (Nat.le_of_eq (mem_msgs.mp hm)) (near_iff.mp h)
theorem decode_no {pts : List (GF i)} {k : Nat} {R : List (Option (GF i))} (h : ∀ w ∈ words i pts k, ¬ near k R w) : decode pts k R = none := by
  cases e : decode pts k R with
  | none => rfl
  | some w =>
    obtain ⟨f, h1, h2, h3⟩ := decode_some e
    exact absurd (near_iff.mpr h3) (h w (List.mem_map.mpr ⟨f, mem_msgs.mpr h1, h2.symm⟩))
/-! ### bursts -/
theorem mixL_getD {α : Type} (z : α) (xss : List (List α)) (n : Nat) {j t : Nat} (hj : j < xss.length) (ht : t < n) : (mixL z xss n).getD (j + xss.length * t) z = (xss.getD j []).getD t z := by
  induction n with
  | zero => omega
  | succ n ih =>
    have e : mixL z xss (n + 1) = mixL z xss n ++ xss.map fun xs => xs.getD n z := by
      unfold mixL
      rw [List.range_succ, List.flatMap_append]
      simp
    rw [e, List.getD_eq_getElem?_getD]
    by_cases h : t < n
    · have hlt : j + xss.length * t < (mixL z xss n).length := by
        rw [mixL_length]
        have : xss.length * (t + 1) ≤ xss.length * n := Nat.mul_le_mul_left _ h
        rw [Nat.mul_succ] at this
        rw [Nat.mul_comm n]
        omega
      rw [List.getElem?_append_left hlt, ← List.getD_eq_getElem?_getD]
      exact ih h
    · have et : t = n := by omega
      subst et
      have hm : (mixL z xss t).length = xss.length * t := by rw [mixL_length, Nat.mul_comm]
      rw [List.getElem?_append_right (by rw [hm]; omega), hm, Nat.add_sub_cancel_right j, List.getElem?_map, List.getElem?_eq_getElem hj, List.getD_eq_getElem?_getD (l := xss), List.getElem?_eq_getElem hj]
      rfl
/-- of the places j, j + d, .. at most c fall into d * c places in a row -/
theorem burst_count (p : Nat → Bool) (b d c j : Nat) (hj : j < d) (n : Nat) (h : ∀ t, p t = true → b ≤ j + d * t ∧ j + d * t < b + d * c) : ((List.range n).filter p).length ≤ c := by
  have hd : 0 < d := by omega
  have ht : ∀ t, p t = true → (b + (d - 1 - j)) / d ≤ t ∧ t < (b + (d - 1 - j)) / d + c := by
    intro t hp
    obtain ⟨h1, h2⟩ := h t hp
    constructor
    · refine Nat.lt_succ_iff.mp ((Nat.div_lt_iff_lt_mul hd).mpr ?_)
      rw [Nat.succ_mul, Nat.mul_comm]
      omega
    · refine Nat.lt_of_not_le fun hge => ?_
      have h3 : (b + (d - 1 - j)) / d ≤ t - c := by omega
      have h4 : b + (d - 1 - j) < (t - c + 1) * d := (Nat.div_lt_iff_lt_mul hd).mp (by omega)
      have hct : c ≤ t := Nat.le_trans (Nat.le_add_left _ _) hge
      have h5 : t = (t - c) + c := by omega
      have h6 : d * t = d * (t - c) + d * c := by
        rw [← Nat.mul_add, ← h5]
      rw [Nat.succ_mul, Nat.mul_comm] at h4
      omega
  generalize (b + (d - 1 - j)) / d = t0 at ht
  have key : ∀ n, ((List.range n).filter p).length ≤ c ∧ ((List.range n).filter p).length ≤ n - t0 := by
    intro n
    induction n with
    | zero => simp
    | succ n ih =>
      rw [List.range_succ, List.filter_append, List.length_append]
      by_cases hp : p n = true
      · have := ht n hp
        simp only [List.filter_cons, hp, if_true, List.filter_nil, List.length_cons, List.length_nil]
        omega
      · simp only [List.filter_cons, hp, if_false, List.filter_nil, List.length_nil]
        constructor
        · simpa using ih.1
        · have := ih.2
          simp
          omega
  exact (key n).1
theorem cutSt_getD {α : Type} (z : α) (xs : List α) (j d n t : Nat) (ht : t < n) : (cutSt z xs j d n).getD t z = xs.getD (j + d * t) z := by
  unfold cutSt
  rw [List.getD_eq_getElem?_getD, List.getElem?_map, List.getElem?_eq_getElem (by rw [List.length_range]; exact ht), List.getElem_range]
  rfl
theorem getD_mem' {α : Type} {xs : List α} {j : Nat} {z : α} (h : j < xs.length) : xs.getD j z ∈ xs := by
  rw [List.getD_eq_getElem?_getD, List.getElem?_eq_getElem h]
  exact List.getElem_mem h
theorem idx_lt {j d t n : Nat} (hj : j < d) (ht : t < n) : j + d * t < n * d := by
  have : d * (t + 1) ≤ d * n := Nat.mul_le_mul_left _ ht
  rw [Nat.mul_succ] at this
  rw [Nat.mul_comm n]
  omega
section
variable {pts : List (GF i)} {ws : List (List (GF i))} {R : List (Option (GF i))} {b c : Nat}
/-- errors in a burst -/
theorem burst_errs (hw : ∀ w ∈ ws, w.length = pts.length) (hR : Win b (ws.length * c) (mixL 0 ws pts.length) R (fun o => o ≠ none)) {j : Nat} (hj : j < ws.length) :
    errs (ws.getD j []) (cutSt none R j ws.length pts.length) ≤ c ∧ (pls (cutSt none R j ws.length pts.length)).length = pts.length := by
  have hwl := hw _ (getD_mem' (z := []) hj)
  have val : ∀ t, t < pts.length → (cutSt none R j ws.length pts.length).getD t none = R.getD (j + ws.length * t) none ∧ j + ws.length * t < (mixL 0 ws pts.length).length ∧ (mixL 0 ws pts.length).getD (j + ws.length * t) 0 = (ws.getD j []).getD t 0 := fun t ht =>
    ⟨cutSt_getD _ _ _ _ _ _ ht, by rw [mixL_length]; exact idx_lt hj ht, mixL_getD 0 ws pts.length hj ht⟩
  constructor
  · unfold errs errsN
    rw [hwl]
    have e : (List.range pts.length).filter (bad (ws.getD j []) (cutSt none R j ws.length pts.length)) = (List.range pts.length).filter fun t => bad (ws.getD j []) (cutSt none R j ws.length pts.length) t && decide (t < pts.length) := by
      apply List.filter_congr
      intro t ht
      rw [decide_eq_true (List.mem_range.mp ht), Bool.and_true]
    rw [e]
    refine burst_count _ b ws.length c j hj pts.length fun t h => ?_
    rw [Bool.and_eq_true] at h
    have ht := of_decide_eq_true h.2
    obtain ⟨v1, v2, v3⟩ := val t ht
    refine Classical.byContradiction fun hn => ?_
    have q := (hR.2 _ v2).1 hn
    have hb := h.1
    unfold bad at hb
    rw [v1, q, v3] at hb
    simp at hb
  · unfold pls plsN
    rw [cutSt_length]
    have e : (List.range pts.length).filter (known (cutSt none R j ws.length pts.length)) = List.range pts.length := by
      rw [List.filter_eq_self]
      intro t ht
      obtain ⟨v1, v2, v3⟩ := val t (List.mem_range.mp ht)
      unfold known
      rw [v1]
      by_cases hin : b ≤ j + ws.length * t ∧ j + ws.length * t < b + ws.length * c
      · have q := (hR.2 _ v2).2 hin
        cases hh : R.getD (j + ws.length * t) none with
        | none => exact absurd hh q
        | some _ => rfl
      · rw [(hR.2 _ v2).1 hin]; rfl
    rw [e, List.length_range]
/-- erased places in a burst -/
theorem burst_erased (hw : ∀ w ∈ ws, w.length = pts.length) (hR : Win b (ws.length * c) (mixL 0 ws pts.length) R (fun o => o = none)) {j : Nat} (hj : j < ws.length) :
    errs (ws.getD j []) (cutSt none R j ws.length pts.length) = 0 ∧ pts.length ≤ (pls (cutSt none R j ws.length pts.length)).length + c := by
  have hwl := hw _ (getD_mem' (z := []) hj)
  have val : ∀ t, t < pts.length → (cutSt none R j ws.length pts.length).getD t none = R.getD (j + ws.length * t) none ∧ j + ws.length * t < (mixL 0 ws pts.length).length ∧ (mixL 0 ws pts.length).getD (j + ws.length * t) 0 = (ws.getD j []).getD t 0 := fun t ht =>
    ⟨cutSt_getD _ _ _ _ _ _ ht, by rw [mixL_length]; exact idx_lt hj ht, mixL_getD 0 ws pts.length hj ht⟩
  constructor
  · unfold errs errsN
    rw [hwl, List.length_eq_zero_iff, List.filter_eq_nil_iff]
    intro t ht
    obtain ⟨v1, v2, v3⟩ := val t (List.mem_range.mp ht)
    unfold bad
    rw [v1]
    by_cases hin : b ≤ j + ws.length * t ∧ j + ws.length * t < b + ws.length * c
    · rw [(hR.2 _ v2).2 hin]; simp
    · rw [(hR.2 _ v2).1 hin, v3]; simp
  · have s := filter_split (known (cutSt none R j ws.length pts.length)) (List.range pts.length)
    rw [List.length_range] at s
    have e1 : (pls (cutSt none R j ws.length pts.length)).length = ((List.range pts.length).filter (known (cutSt none R j ws.length pts.length))).length := by
      unfold pls plsN
      rw [cutSt_length]
    have e : (List.range pts.length).filter (fun t => !known (cutSt none R j ws.length pts.length) t) = (List.range pts.length).filter fun t => !known (cutSt none R j ws.length pts.length) t && decide (t < pts.length) := by
      apply List.filter_congr
      intro t ht
      rw [decide_eq_true (List.mem_range.mp ht), Bool.and_true]
    have bc : ((List.range pts.length).filter (fun t => !known (cutSt none R j ws.length pts.length) t)).length ≤ c := by
      rw [e]
      refine burst_count _ b ws.length c j hj pts.length fun t h => ?_
      rw [Bool.and_eq_true] at h
      have ht := of_decide_eq_true h.2
      obtain ⟨v1, v2, v3⟩ := val t ht
      refine Classical.byContradiction fun hn => ?_
      have q := (hR.2 _ v2).1 hn
      have hb := h.1
      unfold known at hb
      rw [v1, q] at hb
      simp at hb
    omega
/-- each part near: the words come back -/
theorem decN_words {k : Nat} (hn : pts.Nodup) (hw : ∀ w ∈ ws, ∃ f : List (GF i), f.length ≤ k ∧ w = pts.map (ev f))
    (h : ∀ j, j < ws.length → 2 * errs (ws.getD j []) (cutSt none R j ws.length pts.length) + k ≤ (pls (cutSt none R j ws.length pts.length)).length) : decN pts k ws.length R ws.length = some ws := by
  have key : ∀ j, j ≤ ws.length → decN pts k ws.length R j = some (ws.take j) := by
    intro j
    induction j with
    | zero => intro _; rfl
    | succ j ih =>
      intro hj
      have hj' : j < ws.length := by omega
      obtain ⟨f, hf, ef⟩ := hw _ (getD_mem' (z := []) hj')
      have hh := h j hj'
      rw [ef] at hh
      have hd := decode_near hn (cutSt_length none R j ws.length pts.length) hf hh
      rw [← ef] at hd
      rw [decN_some (ih (by omega)) hd, List.take_add_one, List.getElem?_eq_getElem hj', List.getD_eq_getElem?_getD, List.getElem?_eq_getElem hj']
      rfl
  have q := key ws.length (Nat.le_refl _)
  rw [List.take_length] at q
  exact q
theorem words_len (hw : ∀ w ∈ ws, ∃ f : List (GF i), f.length ≤ k ∧ w = pts.map (ev f)) : ∀ w ∈ ws, w.length = pts.length := fun w h => by
  obtain ⟨f, _, e⟩ := hw w h
  rw [e, List.length_map]
theorem dec_errors {k : Nat} (hk : k ≤ pts.length) (hn : pts.Nodup) (hw : ∀ w ∈ ws, ∃ f : List (GF i), f.length ≤ k ∧ w = pts.map (ev f)) (hR : Win b (ws.length * ((pts.length - k) / 2)) (mixL 0 ws pts.length) R (fun o => o ≠ none)) : decN pts k ws.length R ws.length = some ws :=
  decN_words hn hw fun j hj => by
    obtain ⟨h1, h2⟩ := burst_errs (words_len hw) hR hj
    omega
theorem dec_erased {k : Nat} (hk : k ≤ pts.length) (hn : pts.Nodup) (hw : ∀ w ∈ ws, ∃ f : List (GF i), f.length ≤ k ∧ w = pts.map (ev f)) (hR : Win b (ws.length * (pts.length - k)) (mixL 0 ws pts.length) R (fun o => o = none)) : decN pts k ws.length R ws.length = some ws :=
  decN_words hn hw fun j hj => by
    obtain ⟨h1, h2⟩ := burst_erased (words_len hw) hR hj
    omega
theorem dec_plain {k : Nat} (hk : k ≤ pts.length) (hn : pts.Nodup) (hw : ∀ w ∈ ws, ∃ f : List (GF i), f.length ≤ k ∧ w = pts.map (ev f)) : decN pts k ws.length ((mixL 0 ws pts.length).map some) ws.length = some ws :=
  decN_words hn hw fun j hj => by
    have z : Win 0 (ws.length * 0) (mixL 0 ws pts.length) ((mixL 0 ws pts.length).map some) (fun o : Option (GF i) => o ≠ none) := by
      rw [Nat.mul_zero]
      exact Win.zero _ _ _
    obtain ⟨h1, h2⟩ := burst_errs (words_len hw) z hj
    omega
end
end
end NW

set_option Elab.async false
set_option linter.all false
set_option maxRecDepth 100000
set_option maxHeartbeats 8000000
namespace NW
open PySem L2 GP
/-! ### the parts, each a word or none -/
section
variable {i : Fin 8}
def decs (pts : List (GF i)) (k d : Nat) (R : List (Option (GF i))) (j : Nat) : List (Option (List (GF i))) := (List.range j).map fun t => decode pts k (cutSt none R t d pts.length)
theorem decs_length (pts : List (GF i)) (k d : Nat) (R : List (Option (GF i))) (j : Nat) : (decs pts k d R j).length = j := by unfold decs; simp
theorem decs_succ (pts : List (GF i)) (k d : Nat) (R : List (Option (GF i))) (j : Nat) : decs pts k d R (j + 1) = decs pts k d R j ++ [decode pts k (cutSt none R j d pts.length)] := by
  unfold decs
  rw [List.range_succ, List.map_append]
  rfl
theorem decs_some {pts : List (GF i)} {k d : Nat} {R : List (Option (GF i))} : ∀ (j : Nat) {ws : List (List (GF i))}, decs pts k d R j = ws.map some → decN pts k d R j = some ws
  | 0, ws, h => by
    have e : ws = [] := by
      cases ws with
      | nil => rfl
      | cons w r => simp [decs] at h
    rw [e]; rfl
  | j + 1, ws, h => by
    rw [decs_succ] at h
    have hl := congrArg List.length h
    rw [List.length_append, decs_length, List.length_map] at hl
    have hne : ws ≠ [] := fun z => by rw [z] at hl; simp at hl
    obtain ⟨r, w, rfl⟩ : ∃ r w, ws = r ++ [w] := ⟨ws.dropLast, ws.getLast hne, (List.dropLast_concat_getLast hne).symm⟩
    rw [List.map_append] at h
    obtain ⟨h1, h2⟩ := List.append_inj' h rfl
    have e2 : decode pts k (cutSt none R j d pts.length) = some w := by simpa using h2
    exact decN_some (decs_some j h1) e2
theorem decs_none {pts : List (GF i)} {k d : Nat} {R : List (Option (GF i))} {j t : Nat} (ht : t < j) (h : decode pts k (cutSt none R t d pts.length) = none) : decN pts k d R j = none := by
  cases e : decN pts k d R t with
  | none => exact decN_none e (by omega)
  | some ws => exact decN_none (decN_fail e h) ht
theorem all_some : ∀ os : List (Option (List (GF i))), (∃ ws : List (List (GF i)), os = ws.map some) ∨ none ∈ os
  | [] => .inl ⟨[], rfl⟩
  | none :: os => .inr (List.mem_cons_self ..)
  | some w :: os => by
    rcases all_some os with ⟨ws, rfl⟩ | h
    · exact .inl ⟨w :: ws, rfl⟩
    · exact .inr (List.mem_cons_of_mem _ h)
theorem decs_cases (pts : List (GF i)) (k d : Nat) (R : List (Option (GF i))) (j : Nat) : (∃ ws : List (List (GF i)), decs pts k d R j = ws.map some ∧ decN pts k d R j = some ws) ∨ (none ∈ decs pts k d R j ∧ decN pts k d R j = none) := by
  rcases all_some (decs pts k d R j) with ⟨ws, h⟩ | h
  · exact .inl ⟨ws, h, decs_some j h⟩
  · refine .inr ⟨h, ?_⟩
    obtain ⟨t, ht, e⟩ := List.mem_map.mp h
    exact decs_none (List.mem_range.mp ht) e
/-- a part as data -/
def dOf : Option (List (GF i)) → PyData
  | none => .none
  | some w => .list ((w.map GF.enc).map PyData.int)
def PartAt (H : Hp) (v : V) : Option (List (GF i)) → Prop
  | none => v = .non
  | some w => ∃ a, v = .ref a ∧ H a = some (.lst (ve w))
theorem dp_parts {K : PySem.W.Frag} {H : Hp} : ∀ (ps : List V) (os : List (Option (List (GF i)))), ps.length = os.length → (∀ (t : Nat) (v : V), ps[t]? = some v → ∃ o, os[t]? = some o ∧ PartAt H v o) → DpAll K H ps (os.map dOf)
  | [], [], _, _ => .nil
  | [], _ :: _, h, _ => by simp at h
  | _ :: _, [], h, _ => by simp at h
  | v :: ps, o :: os, hl, h => by
    refine .cons ?_ (dp_parts ps os (by simpa using hl) fun t u hu => h (t + 1) u hu)
    obtain ⟨o', e, hp⟩ := h 0 v rfl
    have e' : o = o' := Option.some.inj e
    subst e'
    cases o with
    | none =>
      have hv : v = .non := hp
      rw [hv]
      exact .non
    | some w =>
      obtain ⟨a, rfl, ha⟩ := hp
      exact .lst (SqL.of ha) (dp_ints _)
theorem parts_refs {K : PySem.W.Frag} {H H' : Hp} (s : Same H H') : ∀ (ps : List V) (ws : List (List (GF i))), (∀ (t : Nat) (v : V), ps[t]? = some v → ∃ o, (ws.map some)[t]? = some o ∧ PartAt H v o) → ps.length = ws.length →
    ∃ as : List Addr, ps = as.map V.ref ∧ ∀ (j : Nat) (a : Addr), as[j]? = some a → ∃ w, ws[j]? = some w ∧ SqL K H' a (ve w)
  | [], _, _, _ => ⟨[], rfl, fun j a h => by simp at h⟩
  | v :: ps, [], _, hl => by simp at hl
  | v :: ps, w :: ws, h, hl => by
    obtain ⟨as, e, r⟩ := parts_refs (K := K) s ps ws (fun t u hu => h (t + 1) u hu) (by simpa using hl)
    obtain ⟨o, e1, hp⟩ := h 0 v rfl
    have e2 : some w = o := Option.some.inj e1
    subst e2
    obtain ⟨a, rfl, ha⟩ := hp
    refine ⟨a :: as, by rw [e]; rfl, fun j b hb => ?_⟩
    cases j with
    | zero =>
      have eb : a = b := Option.some.inj hb
      subst eb
      exact ⟨w, rfl, s.seq (SqL.of ha)⟩
    | succ j => exact r j b hb
theorem parts_lay : ∀ os : List (Option (List (GF i))), PyData.canLayAll0 (os.map dOf) = true ∧ PyData.depthAll (os.map dOf) ≤ 3
  | [] => by simp [PyData.canLayAll0, PyData.depthAll]
  | none :: os => by
    obtain ⟨h1, h2⟩ := parts_lay os
    simp only [List.map_cons, dOf, PyData.canLayAll0, PyData.canLay0, PyData.depthAll, PyData.depth, h1]
    exact ⟨rfl, by omega⟩
  | some w :: os => by
    obtain ⟨h1, h2⟩ := parts_lay os
    have h3 := canLay_ints (w.map GF.enc)
    have h4 := depth_ints (w.map GF.enc)
    simp only [List.map_cons, dOf, PyData.canLayAll0, PyData.canLay0, PyData.depthAll, PyData.depth, h1, h3]
    exact ⟨rfl, by omega⟩
theorem parts_shaped (os : List (Option (List (GF i)))) : SeqAt.shaped (.list (os.map dOf)) = true := by
  obtain ⟨h1, h2⟩ := parts_lay os
  have h3 : PyData.depth (.list (os.map dOf)) ≤ 64 := by simp only [PyData.depth]; omega
  show (PyData.canLay0 (.list (os.map dOf)) && decide (PyData.depth (.list (os.map dOf)) ≤ 64)) = true
  rw [Bool.and_eq_true]
  exact ⟨by simp only [PyData.canLay0]; exact h1, decide_eq_true h3⟩
theorem parts_any : ∀ os : List (Option (List (GF i))), ((os.map dOf).any fun z => PyData.eqv z .none) = os.any Option.isNone
  | [] => rfl
  | none :: os => by
    rw [List.map_cons, List.any_cons, List.any_cons]
    rfl
  | some w :: os => by
    rw [List.map_cons, List.any_cons, List.any_cons, parts_any os]
    rfl
end
theorem if_setE {b : Bool} {te : TE} {i : Nat} {D : Ends} {σ : St} {H : Hp} (Pz : Int → Prop) {z0 : Int} (hs : σ[i]? = some (some (.int z0))) (h0 : Pz z0) (ht : b = true → ∀ Q : VK, (∀ z, Pz z → Q (.int z) H) → te σ H Q) (h : ∀ z, Pz z → D.nx (σ.set i (some (.int z))) H) :
    if b = true then tAsg te (gName i) D σ H else tNext D σ H := by
  cases b with
  | true => exact iteT (ht rfl _ fun z hz => h z hz)
  | false =>
    refine iteF ?_
    have q := h z0 h0
    rw [set_same hs] at q
    exact q
/-- behind the making of an instance -/
theorem made_same {H H' : Hp} {x dx C : Addr} (hx : H x = none) (hd : H dx = none) (keep : ∀ b o, upd (upd H dx (.own x)) x (.ins C dx []) b = some o → b ≠ x → H' b = some o) : Same H H' := fun b o e => by
  have n1 : b ≠ x := ne_of_none e hx
  have n2 : b ≠ dx := ne_of_none e hd
  exact keep b o (by rw [upd_ne n1, upd_ne n2]; exact e) n1
theorem room65 {k : Nat} {A : Around} (r : Room k A) : A.units + 65 < cLine := by have := r.un; omega
theorem made0 {H : Hp} {x dx C : Addr} (hx : H x = none) (hd : H dx = none) : Same H (upd (upd H dx (.own x)) x (.ins C dx [])) := fun b o e => by
  rw [upd_ne (ne_of_none e hx), upd_ne (ne_of_none e hd)]
  exact e
theorem field_keep {K : PySem.W.Frag} {CF C x dx fa : Addr} {H H' : Hp} {i : Fin 8} (h : FieldAt K CF H fa i) (hx : H x = some (.ins C dx [])) (keep : ∀ b o, H b = some o → b ≠ x → H' b = some o) : FieldAt K CF H' fa i := by
  obtain ⟨dx', m, h1, h2⟩ := h
  refine ⟨dx', m, keep fa _ h1 (fun e => ?_), ?_⟩
  · subst e
    rw [hx] at h1
    injection h1 with h1
    injection h1 with _ _ h3
    have q := fF_prime i m
    rw [← h3] at q
    cases q
  · rcases h2 with (h | ⟨o, h⟩) | h
    · refine .inl (.inl (keep m _ h fun e => ?_))
      subst e
      rw [hx] at h
      cases h
    · refine .inl (.inr ⟨o, keep m _ h fun e => ?_⟩)
      subst e
      rw [hx] at h
      cases h
    · exact .inr h
/-- the classes are made -/
structure TxM (K : PySem.W.Frag) (CF CE CI fF fE fI : Addr) : Prop where
  mkF : Mk K CF fF
  mkE : Mk K CE fE
  mkI : Mk K CI fI
/-- an __init__ -/
structure CalK (P : Program) (w : World) (K : PySem.W.Frag) (mg : Str → Option Value) (base : Heap) (CX : CXT) (f : Addr) (ps : List Str) (k : Nat) (sp : Sp) : Prop where
  ex : ∃ (fd : FuncData), FnOk P w K mg base CX k f fd ps sp ∧ Binds K fd ps []
section
variable {P : Program} {w : World} {K : PySem.W.Frag} {mg : Str → Option Value} {base : Heap} {CF CE CI CT CC CV fF' fE' fI' : Addr}
abbrev s_law : Stmt := top 65
abbrev N_law : List Str := ["_law_script", "_law_numbers_here", "_law_field_here", "_law_order_here", "_law_size", "_law_dimension", "_law_depth", "_law_points_here", "_law_inner", "_law_code", "_law_messages", "_law_j", "_law_word", "_law_received", "_law_many", "_law_k", "_law_words_here", "_law_parts", "_law_due", "_law_message"]
theorem sc_law : FnScope N_law ["_law_script"] (defScope s_law) := ⟨rfl, rfl, rfl, by decide +kernel, rfl, by decide +kernel, by decide +kernel⟩
def sp_law (K : PySem.W.Frag) : Sp := fun vs H Q _ => ∃ (l : Addr) (xs : List Int), vs = [.ref l] ∧ SqL K H l (vi xs) ∧ ∀ H', Q (.bl true) H'
theorem ok_law {f : Addr} {fd' : FuncData} (F : Fun K "law" "law" s_law f fd') (T : Txt K mg CF CE CI) (TK : TxM K CF CE CI fF' fE' fI')
    (i1 : CalK P w K mg base CX0 fF' ["self", "prime", "modulus"] 4 (sp_Field___init__ K CF)) (i2 : CalK P w K mg base CX0 fE' ["self", "field", "points", "dimension"] 2 (sp_E_init K CF CE)) (i3 : CalK P w K mg base CX0 fI' ["self", "code", "depth"] 1 (sp_I_init K CF CE CI))
    (c1 : Cal P w K mg base CX0 "_law_numbers" ["_law_script", "_law_many"] 2 (sp_law_numbers K)) (c2 : Cal P w K mg base CX0 "_law_field" ["_law_number"] 1 (sp_law_field K)) (c3 : Cal P w K mg base CX0 "_law_order" ["_law_field_here"] 1 (sp_law_order K))
    (c4 : Cal P w K mg base CX0 "_law_points" ["_law_order_here", "_law_many", "_law_numbers_here", "_law_at"] 1 (sp_law_points K)) (c5 : Cal P w K mg base CX0 "_law_mixed" ["_law_words_here"] 1 (sp_law_mixed K))
    (c6 : Cal P w K mg base CX0 "_law_values" ["_law_field_here", "_law_points_here", "_law_message"] 3 (sp_law_values K)) (c7 : Cal P w K mg base CX0 "_law_errors" ["_law_word", "_law_order_here", "_law_numbers_here", "_law_many", "_law_at"] 1 (sp_law_errors K))
    (c8 : Cal P w K mg base CX0 "_law_same" ["_law_actual", "_law_due"] 2 sp_law_same) (c9 : Cal P w K mg base CX0 "_law_told" ["_law_code", "_law_received"] 9 (sp_law_told K CF CE CI)) (c10 : Cal P w K mg base CX0 "_law_erased" ["_law_word", "_law_numbers_here", "_law_many", "_law_at"] 1 (sp_law_erased K))
    (c11 : Cal P w K mg base CX0 "_law_words" ["_law_field_here", "_law_points_here", "_law_dimension"] 4 (sp_law_words K)) (c12 : Cal P w K mg base CX0 "_law_any" ["_law_word", "_law_order_here", "_law_numbers_here", "_law_at"] 1 (sp_law_any K))
    (c13 : Cal P w K mg base CX0 "_law_part" ["_law_words_here", "_law_dimension", "_law_part_here"] 1 (sp_law_part K)) : FnOk P w K mg base CX0 10 f fd' ["_law_script"] (sp_law K) := by
  obtain ⟨_, ok_initF, b_initF⟩ := i1
  obtain ⟨_, ok_initE, b_initE⟩ := i2
  obtain ⟨_, ok_initI, b_initI⟩ := i3
  obtain ⟨f_l_law_numbers, _, ok_l_law_numbers, mg_l_law_numbers, kp_l_law_numbers, b_l_law_numbers⟩ := c1
  obtain ⟨f_l_law_field, _, ok_l_law_field, mg_l_law_field, kp_l_law_field, b_l_law_field⟩ := c2
  obtain ⟨f_l_law_order, _, ok_l_law_order, mg_l_law_order, kp_l_law_order, b_l_law_order⟩ := c3
  obtain ⟨f_l_law_points, _, ok_l_law_points, mg_l_law_points, kp_l_law_points, b_l_law_points⟩ := c4
  obtain ⟨f_l_law_mixed, _, ok_l_law_mixed, mg_l_law_mixed, kp_l_law_mixed, b_l_law_mixed⟩ := c5
  obtain ⟨f_l_law_values, _, ok_l_law_values, mg_l_law_values, kp_l_law_values, b_l_law_values⟩ := c6
  obtain ⟨f_l_law_errors, _, ok_l_law_errors, mg_l_law_errors, kp_l_law_errors, b_l_law_errors⟩ := c7
  obtain ⟨f_l_law_same, _, ok_l_law_same, mg_l_law_same, kp_l_law_same, b_l_law_same⟩ := c8
  obtain ⟨f_l_law_told, _, ok_l_law_told, mg_l_law_told, kp_l_law_told, b_l_law_told⟩ := c9
  obtain ⟨f_l_law_erased, _, ok_l_law_erased, mg_l_law_erased, kp_l_law_erased, b_l_law_erased⟩ := c10
  obtain ⟨f_l_law_words, _, ok_l_law_words, mg_l_law_words, kp_l_law_words, b_l_law_words⟩ := c11
  obtain ⟨f_l_law_any, _, ok_l_law_any, mg_l_law_any, kp_l_law_any, b_l_law_any⟩ := c12
  obtain ⟨f_l_law_part, _, ok_l_law_part, mg_l_law_part, kp_l_law_part, b_l_law_part⟩ := c13
  refine F.ok sc_law (fun vs H Q E h => ?_) (fun cdv A outer s H vs Q E hr h => ?_)
  · obtain ⟨l, xs, rfl, _⟩ := h; rfl
  · obtain ⟨l, xs, rfl, hl, k⟩ := h
    refine ⟨_, (pss_cons (ps_set (i := 1) sc_law.nd rfl (Or.inr rfl) (pe_call ok_l_law_numbers (hr.mono (by decide)) (by rfl) mg_l_law_numbers kp_l_law_numbers b_l_law_numbers .nil pass0 (pa_cons (pv 0) (pa_cons pe_int pa_nil))))
      (pss_cons (ps_set (i := 2) sc_law.nd rfl (Or.inr rfl) (pe_call ok_l_law_field (hr.mono (by decide)) (by rfl) mg_l_law_field kp_l_law_field b_l_law_field .nil pass0 (pa_cons (pe_ix ix_list (pv 1) pe_int (fun _ _ => rfl)) pa_nil)))
      (pss_cons (ps_set (i := 3) sc_law.nd rfl (Or.inr rfl) (pe_call ok_l_law_order (hr.mono (by decide)) (by rfl) mg_l_law_order kp_l_law_order b_l_law_order .nil pass0 (pa_cons (pv 2) pa_nil)))
      (pss_cons (ps_set (i := 4) sc_law.nd rfl (Or.inl rfl) (pe_op op_add pe_int (pe_op op_mod (pe_callTy call_intI (by rfl) T.n_int bt_int (pa_cons (pe_ix ix_list (pv 1) pe_int (fun _ _ => rfl)) pa_nil)) (pe_callB (call_min2 rfl) (by rfl) T.n_min bt_min (pa_cons (pv 3) (pa_cons pe_int pa_nil))))))
      (pss_cons (ps_set (i := 5) sc_law.nd rfl (Or.inl rfl) (pe_op op_add pe_int (pe_op op_mod (pe_callTy call_intI (by rfl) T.n_int bt_int (pa_cons (pe_ix ix_list (pv 1) pe_int (fun _ _ => rfl)) pa_nil)) (pe_callB (call_min2 rfl) (by rfl) T.n_min bt_min (pa_cons (pv 4) (pa_cons pe_int pa_nil))))))
      (pss_cons (ps_set (i := 6) sc_law.nd rfl (Or.inr rfl) (pe_op op_add pe_int (pe_op op_mod (pe_callTy call_intI (by rfl) T.n_int bt_int (pa_cons (pe_ix ix_list (pv 1) pe_int (fun _ _ => rfl)) pa_nil)) pe_int)))
      (pss_cons (ps_if (pt_cmpR op_eq (pe_op op_mod (pe_callTy call_intI (by rfl) T.n_int bt_int (pa_cons (pe_ix ix_list (pv 1) pe_int (fun _ _ => rfl)) pa_nil)) pe_int) pe_int (nomark _)) (pss_one (ps_set (i := 6) sc_law.nd rfl (Or.inr rfl) (pe_op op_add pe_int (pe_op op_mod (pe_callTy call_intI (by rfl) T.n_int bt_int (pa_cons (pe_ix ix_list (pv 1) pe_int (fun _ _ => rfl)) pa_nil)) pe_int)))) pss_nil)
      (pss_cons (ps_set (i := 7) sc_law.nd rfl (Or.inr rfl) (pe_call ok_l_law_points (hr.mono (by decide)) (by rfl) mg_l_law_points kp_l_law_points b_l_law_points .nil pass0 (pa_cons (pv 3) (pa_cons (pv 4) (pa_cons (pv 1) (pa_cons pe_int pa_nil))))))
      (pss_cons (ps_set (i := 8) sc_law.nd rfl (Or.inl rfl) (pe_make TK.mkE ok_initE (hr.mono (by decide)) (by rfl) T.g_EvaluationCode b_initE .nil pass0 (pa_cons (pe_make TK.mkF ok_initF (hr.mono (by decide)) (by rfl) T.g_Field b_initF .nil pass0 (pa_cons (pe_ix ix_tup (pv 2) pe_int (fun _ _ => rfl)) (pa_cons (pe_ix ix_tup (pv 2) pe_int (fun _ _ => rfl)) pa_nil))) (pa_cons (pe_callTy call_list_of (by rfl) T.n_list bt_list (pa_cons (pv 7) pa_nil)) (pa_cons (pv 5) pa_nil)))))
      (pss_cons (ps_set (i := 9) sc_law.nd rfl (Or.inl rfl) (pe_make TK.mkI ok_initI (hr.mono (by decide)) (by rfl) T.g_InterleavedCode b_initI .nil pass0 (pa_cons (pv 8) (pa_cons (pv 6) pa_nil))))
      (pss_cons (ps_set (i := 10) sc_law.nd rfl (Or.inl rfl) (pe_lst pa_nil))
      (pss_cons (ps_for PassesOwn.never rfl (pi_range1 (by rfl) T.n_range (pa_cons (pv 6) pa_nil)) (pg_name (i := 11) sc_law.nd rfl (Or.inr rfl)) (pss_one (ps_expr (pe_bm PySem.F.plainAttrs_list PySem.F.slot_list_append PySem.F.type_list_append mt_append (pv 10) (pa_cons (pe_lc (own := [("_law_k", 15)]) rfl sc_law.nd (pi_range1 (by rfl) T.n_range (pa_cons (pv 5) pa_nil)) (blkOk_by (own := [("_law_k", 15)]) (N := N_law) (sc := defScope s_law) (by decide +kernel)) (fun _ _ _ _ _ => pg_name (i := 15) sc_law.nd rfl (Or.inl rfl)) (fun _ _ _ _ _ => pts_nil) (fun _ _ _ _ _ => (pe_op op_mod (pe_callTy call_intI (by rfl) T.n_int bt_int (pa_cons (pe_op op_add (pe_ix (ix_listK K rfl) (pv 1) (pe_op op_add (pe_op op_add pe_int (pe_op op_mul pe_int (pe_op op_mod (pe_callTy call_intI (by rfl) T.n_int bt_int (pa_cons (pv 11) pa_nil)) pe_int))) (pv 15)) (fun _ _ => rfl)) (pe_op op_mul pe_int (pe_op op_fdiv (pv 11) pe_int))) pa_nil)) (pv 3)))) pa_nil)))))
      (pss_cons (ps_set (i := 12) sc_law.nd rfl (Or.inl rfl) (pe_call ok_l_law_mixed (hr.mono (by decide)) (by rfl) mg_l_law_mixed kp_l_law_mixed b_l_law_mixed .nil pass0 (pa_cons (pe_lc (own := [("_law_message", 19)]) rfl sc_law.nd (pi_list (pv 10)) (blkOk_by (own := [("_law_message", 19)]) (N := N_law) (sc := defScope s_law) (by decide +kernel)) (fun _ _ _ _ _ => pg_name (i := 19) sc_law.nd rfl (Or.inl rfl)) (fun _ _ _ _ _ => pts_nil) (fun _ _ _ _ _ => (pe_call ok_l_law_values (hr.mono (by decide)) (by rfl) mg_l_law_values kp_l_law_values b_l_law_values .nil pass0 (pa_cons (pv 2) (pa_cons (pv 7) (pa_cons (pv 19) pa_nil)))))) pa_nil)))
      (pss_cons (ps_set (i := 13) sc_law.nd rfl (Or.inr rfl) (pe_call ok_l_law_errors (hr.mono (by decide)) (by rfl) mg_l_law_errors kp_l_law_errors b_l_law_errors .nil pass0 (pa_cons (pv 12) (pa_cons (pv 3) (pa_cons (pv 1) (pa_cons (pe_op op_mul (pv 6) (pe_op op_fdiv (pe_op op_sub (pv 4) (pv 5)) pe_int)) (pa_cons pe_int pa_nil)))))))
      (pss_cons (ps_if (pt_not (pt_val (pe_call ok_l_law_same (hr.mono (by decide)) (by rfl) mg_l_law_same kp_l_law_same b_l_law_same .nil pass0 (pa_cons (pe_call ok_l_law_told (hr.mono (by decide)) (by rfl) mg_l_law_told kp_l_law_told b_l_law_told .nil pass0 (pa_cons (pv 9) (pa_cons (pv 13) pa_nil))) (pa_cons (pv 12) pa_nil))))) (pss_one (ps_ret pe_bl)) pss_nil)
      (pss_cons (ps_set (i := 13) sc_law.nd rfl (Or.inr rfl) (pe_call ok_l_law_erased (hr.mono (by decide)) (by rfl) mg_l_law_erased kp_l_law_erased b_l_law_erased .nil pass0 (pa_cons (pv 12) (pa_cons (pv 1) (pa_cons (pe_op op_mul (pv 6) (pe_op op_sub (pv 4) (pv 5))) (pa_cons pe_int pa_nil))))))
      (pss_cons (ps_if (pt_not (pt_val (pe_call ok_l_law_same (hr.mono (by decide)) (by rfl) mg_l_law_same kp_l_law_same b_l_law_same .nil pass0 (pa_cons (pe_call ok_l_law_told (hr.mono (by decide)) (by rfl) mg_l_law_told kp_l_law_told b_l_law_told .nil pass0 (pa_cons (pv 9) (pa_cons (pv 13) pa_nil))) (pa_cons (pv 12) pa_nil))))) (pss_one (ps_ret pe_bl)) pss_nil)
      (pss_cons (ps_set (i := 14) sc_law.nd rfl (Or.inl rfl) pe_int)
      (pss_cons (ps_for PassesOwn.never rfl (pi_range1 (by rfl) T.n_range (pa_cons (pv 5) pa_nil)) (pg_name (i := 15) sc_law.nd rfl (Or.inl rfl)) (pss_one (ps_set (i := 14) sc_law.nd rfl (Or.inl rfl) (pe_op op_mul (pv 14) (pv 3)))))
      (pss_cons (ps_if (pt_cmpR op_gt (pv 14) pe_int (nomark _)) (pss_one (ps_ret (pe_call ok_l_law_same (hr.mono (by decide)) (by rfl) mg_l_law_same kp_l_law_same b_l_law_same .nil pass0 (pa_cons (pe_call ok_l_law_told (hr.mono (by decide)) (by rfl) mg_l_law_told kp_l_law_told b_l_law_told .nil pass0 (pa_cons (pv 9) (pa_cons (pv 12) pa_nil))) (pa_cons (pv 12) pa_nil))))) pss_nil)
      (pss_cons (ps_set (i := 16) sc_law.nd rfl (Or.inl rfl) (pe_call ok_l_law_words (hr.mono (by decide)) (by rfl) mg_l_law_words kp_l_law_words b_l_law_words .nil pass0 (pa_cons (pv 2) (pa_cons (pv 7) (pa_cons (pv 5) pa_nil)))))
      (pss_cons (ps_set (i := 13) sc_law.nd rfl (Or.inr rfl) (pe_call ok_l_law_any (hr.mono (by decide)) (by rfl) mg_l_law_any kp_l_law_any b_l_law_any .nil pass0 (pa_cons (pv 12) (pa_cons (pv 3) (pa_cons (pv 1) (pa_cons pe_int pa_nil))))))
      (pss_cons (ps_set (i := 17) sc_law.nd rfl (Or.inl rfl) (pe_lst pa_nil))
      (pss_cons (ps_for PassesOwn.never rfl (pi_range1 (by rfl) T.n_range (pa_cons (pv 6) pa_nil)) (pg_name (i := 11) sc_law.nd rfl (Or.inr rfl)) (pss_one (ps_expr (pe_bm PySem.F.plainAttrs_list PySem.F.slot_list_append PySem.F.type_list_append mt_append (pv 17) (pa_cons (pe_call ok_l_law_part (hr.mono (by decide)) (by rfl) mg_l_law_part kp_l_law_part b_l_law_part .nil pass0 (pa_cons (pv 16) (pa_cons (pv 5) (pa_cons (pe_lc (own := [("_law_k", 15)]) rfl sc_law.nd (pi_range1 (by rfl) T.n_range (pa_cons (pv 4) pa_nil)) (blkOk_by (own := [("_law_k", 15)]) (N := N_law) (sc := defScope s_law) (by decide +kernel)) (fun _ _ _ _ _ => pg_name (i := 15) sc_law.nd rfl (Or.inl rfl)) (fun _ _ _ _ _ => pts_nil) (fun _ _ _ _ _ => (pe_ix (ix_listK K rfl) (pv 13) (pe_op op_add (pe_op op_mul (pv 15) (pv 6)) (pv 11)) (fun _ _ => rfl)))) pa_nil)))) pa_nil)))))
      (pss_cons (ps_set (i := 18) sc_law.nd rfl (Or.inl rfl) pe_non)
      (pss_cons (ps_if (pt_cmpR (op_notInD (room65 hr)) pe_non (pv 17) (by rfl)) (pss_one (ps_set (i := 18) sc_law.nd rfl (Or.inl rfl) (pe_call ok_l_law_mixed (hr.mono (by decide)) (by rfl) mg_l_law_mixed kp_l_law_mixed b_l_law_mixed .nil pass0 (pa_cons (pv 17) pa_nil)))) pss_nil)
      (pss_one (ps_ret (pe_and (pe_call ok_l_law_same (hr.mono (by decide)) (by rfl) mg_l_law_same kp_l_law_same b_l_law_same .nil pass0 (pa_cons (pe_call ok_l_law_told (hr.mono (by decide)) (by rfl) mg_l_law_told kp_l_law_told b_l_law_told .nil pass0 (pa_cons (pv 9) (pa_cons (pv 13) pa_nil))) (pa_cons (pv 18) pa_nil))) (pe_one (pe_call ok_l_law_same (hr.mono (by decide)) (by rfl) mg_l_law_same kp_l_law_same b_l_law_same .nil pass0 (pa_cons (pe_call ok_l_law_told (hr.mono (by decide)) (by rfl) mg_l_law_told kp_l_law_told b_l_law_told .nil pass0 (pa_cons (pv 9) (pa_cons (pv 12) pa_nil))) (pa_cons (pv 12) pa_nil))))))))))))))))))))))))))))))))), ?_⟩
    refine ⟨_, rfl, l, xs, 70, rfl, hl, by decide, fun H1 pn ns s1 nn hn1 hns => ?_⟩
    -- field, order
    refine ⟨_, rfl, pn, _, _, _, rfl, rfl, SqL.of hn1, at_nat (vi_at (j := 0) (by omega)), _, rfl, fun H2 t i s2 ft => ?_⟩
    have hn2 := s2 _ _ hn1
    refine ⟨_, rfl, t, i, rfl, ft, ?_⟩
    have q9 := fq_le i
    have q2 := fq_ge i
    -- size
    refine ⟨_, rfl, pn, _, _, _, rfl, rfl, SqL.of hn2, at_nat (vi_at (j := 1) (by omega)), _, rfl, _, rfl, _, _, rfl, _, _, rfl, rfl, (by show (0 : Int) < (if (5 : Int) < (fq i : Int) then 5 else (fq i : Int)); split <;> omega), _, _, rfl, rfl, ?_⟩
    obtain ⟨n, en, hn1', hn5, hnq⟩ : ∃ n : Nat, (1 : Int) + ns.getD 1 0 % (if (5 : Int) < (fq i : Int) then 5 else (fq i : Int)) = (n : Int) ∧ 1 ≤ n ∧ n ≤ 5 ∧ n ≤ fq i := by
      generalize hd : (if (5 : Int) < (fq i : Int) then 5 else (fq i : Int)) = dv
      have h1 : 0 < dv ∧ dv ≤ 5 ∧ dv ≤ fq i := by rw [← hd]; split <;> omega
      have h2 := Int.emod_nonneg (ns.getD 1 0) (show dv ≠ 0 by omega)
      have h3 := Int.emod_lt_of_pos (ns.getD 1 0) h1.1
      exact ⟨(1 + ns.getD 1 0 % dv).toNat, by omega, by omega, by omega, by omega⟩
    simp only [en]
    -- dimension
    refine ⟨_, rfl, pn, _, _, _, rfl, rfl, SqL.of hn2, at_nat (vi_at (j := 2) (by omega)), _, rfl, _, rfl, _, _, rfl, _, _, rfl, rfl, (by show (0 : Int) < (if (3 : Int) < (n : Int) then 3 else (n : Int)); split <;> omega), _, _, rfl, rfl, ?_⟩
    obtain ⟨kd, ek, hk1, hk3, hkn⟩ : ∃ k : Nat, (1 : Int) + ns.getD 2 0 % (if (3 : Int) < (n : Int) then 3 else (n : Int)) = (k : Int) ∧ 1 ≤ k ∧ k ≤ 3 ∧ k ≤ n := by
      generalize hd : (if (3 : Int) < (n : Int) then 3 else (n : Int)) = dv
      have h1 : 0 < dv ∧ dv ≤ 3 ∧ dv ≤ n := by rw [← hd]; split <;> omega
      have h2 := Int.emod_nonneg (ns.getD 2 0) (show dv ≠ 0 by omega)
      have h3 := Int.emod_lt_of_pos (ns.getD 2 0) h1.1
      exact ⟨(1 + ns.getD 2 0 % dv).toNat, by omega, by omega, by omega, by omega⟩
    simp only [ek]
    -- depth
    refine ⟨_, rfl, pn, _, _, _, rfl, rfl, SqL.of hn2, at_nat (vi_at (j := 3) (by omega)), _, rfl, _, _, rfl, rfl, (by show (0 : Int) < 3; decide), _, _, rfl, rfl, ?_⟩
    refine ⟨_, rfl, pn, _, _, _, rfl, rfl, SqL.of hn2, at_nat (vi_at (j := 9) (by omega)), _, rfl, _, _, rfl, rfl, (by show (0 : Int) < 16; decide), rfl, _, rfl, ?_⟩
    refine if_setE (i := 6) (fun z => 1 ≤ z ∧ z ≤ 12) rfl (by omega) (fun _ Q' hq => ?_) fun z hz => ?_
    · exact ⟨_, rfl, pn, _, _, _, rfl, rfl, SqL.of hn2, at_nat (vi_at (j := 3) (by omega)), _, rfl, _, _, rfl, rfl, (by show (0 : Int) < 9; decide), _, _, rfl, rfl, hq _ (by omega)⟩
    obtain ⟨d, rfl⟩ : ∃ d : Nat, z = (d : Int) := ⟨z.toNat, by omega⟩
    have hd1 : 1 ≤ d := by omega
    have hd12 : d ≤ 12 := by omega
    -- points
    refine ⟨_, rfl, _, rfl, _, rfl, pn, ns, i, n, 4, rfl, SqL.of hn2, hnq, by omega, fun pts nd hpl H3 pp s3 np hpp => ?_⟩
    subst hpl
    have hn3 := s3 _ _ hn2
    obtain ⟨m, ht, hm⟩ := id ft
    -- Field(..)
    refine ⟨_, rfl, t, _, _, _, rfl, rfl, sqTS s3 ht, at_nat (j := 0) rfl, _, rfl, t, _, _, _, rfl, rfl, sqTS s3 ht, at_nat (j := 1) rfl, fun x dx hx hdx ndx => ?_⟩
    refine ⟨x, dx, i, m, rfl, upd_same, sqTS (s3.trans (made0 hx hdx)) hm, fun H4 h4 keep4 => ⟨rfl, ?_⟩⟩
    have s34 := made_same hx hdx keep4
    have hF : FieldAt K CF H4 x i := ⟨dx, m, h4, sqTS (s3.trans s34) hm⟩
    -- EvaluationCode(..)
    refine ⟨_, rfl, pp, _, rfl, .inl (SqL.of (s34 _ _ hpp)), fun q hq => ⟨_, rfl, fun x2 dx2 hx2 hdx2 ndx2 => ?_⟩⟩
    have s45 := newS (o := .lst (ve pts)) hq
    have s4m := s45.trans (made0 (C := CE) hx2 hdx2)
    refine ⟨x2, dx2, x, q, i, pts, kd, rfl, upd_same, fieldS s4m hF, ne_of_none (s45 _ _ h4) hx2, SqL.of (made0 (C := CE) hx2 hdx2 _ _ upd_same), nd, hk1, hkn, by omega, fun H6 pa h6 hpa keep6 => ⟨rfl, ?_⟩⟩
    have s46 := s45.trans (made_same hx2 hdx2 keep6)
    have hE : EvalAt K CF CE H6 x2 i pts kd := ⟨dx2, x, pa, h6, fieldS s46 hF, SqL.of hpa⟩
    -- InterleavedCode(..)
    refine ⟨_, rfl, _, rfl, fun x3 dx3 hx3 hdx3 ndx3 => ?_⟩
    refine ⟨x3, dx3, x2, i, pts, kd, d, rfl, upd_same, evalS (made0 hx3 hdx3) hE, ne_of_none h6 hx3, hd1, Nat.le_trans (Nat.mul_le_mul hd12 hn5) (by decide), by omega, fun H7 fa bm bf h7 hF7 keep7 => ⟨rfl, ?_⟩⟩
    have s67 := made_same hx3 hdx3 keep7
    have s27 := s3.trans (s34.trans (s46.trans s67))
    have hI : InterAt K CF CE CI H7 x3 i pts kd d := ⟨dx3, x2, fa, bm, bf, h7, field_keep hF7 upd_same keep7, evalS s67 hE⟩
    have hn7 := s27 _ _ hn2
    have ft7 := ftS s27 ft
    have hpp7 := (s34.trans (s46.trans s67)) _ _ hpp
    -- messages
    refine ⟨Nat.zero_le _, fun pm hpm => ?_⟩
    refine ⟨_, rfl, _, rfl, by omega, by omega, ?_⟩
    rw [Int.toNat_natCast]
    refine for_range (fun j σ H' => ∃ (v11 : Option V) (ms : List (List (GF i))), σ = [some (.ref l), some (.ref pn), some (.ref t), some (.int (fq i)), some (.int pts.length), some (.int kd), some (.int d), some (.ref pp), some (.ref x2), some (.ref x3), some (.ref pm), v11, none, none, none, none, none, none, none, none] ∧ LA H7 H' pm (ms.map ve) ∧ ms.length = j ∧ ∀ m ∈ ms, m.length = kd)
      ⟨none, [], rfl, LA_nil hpm, rfl, fun m h => by simp at h⟩ ?_ ?_
    · rintro j σ H8 hj ⟨v11, ms, rfl, la, hml, hmk⟩
      have ej : (0 : Int) + (j : Nat) = ((j : Nat) : Int) := by omega
      refine ⟨_, rfl, .inl ⟨rfl, _, SqL.of la.2.choose_spec.1⟩, _, rfl, _, rfl, by omega, by omega, fun D hD => ?_⟩
      rw [Int.toNat_natCast]
      refine lc_range (fun b H9 => ∃ f : List (GF i), f.length = b ∧ Same H8 H9 ∧ H9 D = some (.lst (ve f))) ⟨[], rfl, newS hD, upd_same⟩ ?_ ?_
      · rintro b H9 hb ⟨f, hf, s9, hD9⟩
        have e10 : (10 : Int) + 3 * ((0 + (j : Nat)) % 3) + (0 + (b : Nat)) = ((10 + 3 * (j % 3) + b : Nat) : Int) := by omega
        have hn9 := s9 _ _ (la.1 _ _ hn7)
        refine ⟨rfl, _, rfl, _, rfl, _, rfl, _, _, rfl, rfl, (by show (0 : Int) < 3; decide), _, _, rfl, rfl, .inl ⟨by omega, by omega⟩, _, _, rfl, rfl, _, rfl, _, _, rfl, rfl, pn, _, _, _, rfl, rfl, SqL.of hn9, at_of e10 (vi_at (by omega)),
          _, rfl, _, _, rfl, rfl, ⟨by decide, by decide⟩, _, _, rfl, rfl, .inl ⟨by omega, by omega⟩, _, _, rfl, rfl, _, rfl, _, rfl, _, _, rfl, rfl, (by show (0 : Int) < fq i; omega), _, hD9, smallLt (by rw [ve_len]; omega), ?_⟩
        dsimp only
        generalize ns.getD (10 + 3 * (j % 3) + b) 0 + 5 * ((0 + (j : Nat)) / 3) = z
        obtain ⟨c, hc⟩ := GF.enc_surj (i := i) (Int.emod_nonneg z (show (fq i : Int) ≠ 0 by omega)) (Int.emod_lt_of_pos z (show (0 : Int) < fq i by omega))
        refine ⟨f ++ [c], by simp [hf], mutS s9 hD, ?_⟩
        rw [upd_same, ← hc]
        simp [ve]
      · rintro H9 ⟨f, hf, s9, hD9⟩
        obtain ⟨ys, hys, hyl, la2⟩ := LA_push la hpm s9 hD hD9
        refine ⟨pm, _, _, rfl, rfl, hys, smallLt (by rw [hyl, List.length_map]; omega), some (.int (0 + (j : Nat))), ms ++ [f], rfl, ?_, by simp [hml], fun m hm => ?_⟩
        · rw [List.map_append]; exact la2
        · rcases List.mem_append.mp hm with hm | hm
          · exact hmk m hm
          · have e : m = f := by simpa using hm
            rw [e, hf]
    rintro σ H8 ⟨v11, ms, rfl, la, hml, hmk⟩
    obtain ⟨s78, as, ha1, ha2, ha3⟩ := id la
    -- word
    refine ⟨_, rfl, pm, rfl, ⟨_, SqL.of ha1⟩, fun D hD => ?_⟩
    refine lc_list (K := K) (a := pm) (xs := as.map V.ref) (fun j H' => LA H8 H' D (((ms.map fun m => pts.map (ev m)).take j).map ve)) (LA_nil hD) (fun j H' _ h => SqL.of (h.1 _ _ ha1)) ?_ ?_
    · rintro j u H' hu h
      obtain ⟨a, ha, rfl⟩ := refs_get hu
      obtain ⟨us, g1, g2, g3⟩ := ha3 j a ha
      rw [List.getElem?_map] at g1
      cases hmj : ms[j]? with
      | none => rw [hmj] at g1; cases g1
      | some mj =>
        rw [hmj] at g1
        have exs : ve mj = us := Option.some.inj g1
        subst exs
        have hjm : j < ms.length := (List.getElem?_eq_some_iff.mp hmj).1
        refine ⟨rfl, _, rfl, _, rfl, _, rfl, t, pp, a, i, pts, mj, rfl, ftS (s78.trans h.1) ft7, SqL.of (h.1 _ _ (s78 _ _ hpp7)), SqL.of (h.1 _ _ g2), by omega, fun H9 q9 s9 nq9 hq9 => ?_⟩
        obtain ⟨ys, hys, hyl, la2⟩ := LA_push h hD s9 nq9 hq9
        refine ⟨_, hys, smallLt (by rw [hyl, List.length_map, List.length_take]; omega), ?_⟩
        rw [List.take_add_one, List.getElem?_map, hmj, List.map_append]
        exact la2
    rintro H9 h9
    have eas : (as.map V.ref).length = (ms.map fun m => pts.map (ev m)).length := by rw [List.length_map, ha2, List.length_map, List.length_map]
    rw [eas, List.take_length] at h9
    have hws : ∀ w ∈ ms.map fun m => pts.map (ev m), ∃ f : List (GF i), f.length ≤ kd ∧ w = pts.map (ev f) := fun w hw => by
      obtain ⟨mm, h1, h2⟩ := List.mem_map.mp hw
      exact ⟨mm, Nat.le_of_eq (hmk mm h1), h2.symm⟩
    have hwl : (ms.map fun m => pts.map (ev m)).length = d := by rw [List.length_map, hml]
    generalize (ms.map fun m => pts.map (ev m)) = ws at h9 hws hwl
    have hwn := words_len hws
    refine ⟨D, ws.map ve, pts.length, rfl, LA_LL h9 (fun v hv => by
      obtain ⟨w, h1, h2⟩ := List.mem_map.mp hv
      rw [← h2, ve_len]
      exact hwn w h1), by rw [List.length_map]; omega, by rw [List.length_map]; omega, by omega, fun H10 pw s10 npw hpw => ?_⟩
    rw [mix_vr ws _ hwn] at hpw
    have hpw' : H10 pw = some (.lst (ve (mixL 0 ws pts.length))) := by rw [hpw, ve_vr]
    have hWl : (mixL 0 ws pts.length).length = pts.length * d := by rw [mixL_length, hwl]
    have hW60 : pts.length * d ≤ 5 * 12 := Nat.mul_le_mul hn5 hd12
    have s710 := s78.trans (h9.1.trans s10)
    have hI10 := interS s710 hI
    have hn10 := s710 _ _ hn7
    have ft10 := ftS s710 ft7
    have hpp10 := s710 _ _ hpp7
    generalize hWe : mixL 0 ws pts.length = W at hpw hpw' hWl
    have dW : ∀ (R : List (Option (GF i))), decN pts kd ws.length R ws.length = some ws → decN pts kd d R d = some ws := fun R h => by rwa [hwl] at h
    -- errors
    have em1 : (d : Int) * (((pts.length : Int) - (kd : Int)) / 2) = ((d * ((pts.length - kd) / 2) : Nat) : Int) := by
      rw [Int.natCast_mul]
      have : ((pts.length : Int) - (kd : Int)) / 2 = (((pts.length - kd) / 2 : Nat) : Int) := by omega
      rw [this]
    have hm1 : d * ((pts.length - kd) / 2) ≤ pts.length * d := by
      rw [Nat.mul_comm]
      exact Nat.mul_le_mul_right _ (by omega)
    refine ⟨_, rfl, _, rfl, _, rfl, _, rfl, _, rfl, _, rfl, _, _, rfl, rfl, _, _, rfl, rfl, ⟨by decide, by decide⟩, _, _, rfl, rfl, .inl ⟨by omega, by omega⟩, pw, pn, i, W, ns, d * ((pts.length - kd) / 2), 20, ?_, SqL.of hpw', SqL.of hn10, by rw [hWl]; exact hm1, by omega, by omega, fun b R hb hwin H11 pr s11 hpr => ?_⟩
    · show [_, _, _, V.int _, _] = _
      rw [em1]
      rfl
    have hdec1 := dW R (dec_errors hkn nd hws (by rw [hwl, hWe]; exact hwin))
    refine ⟨_, rfl, _, rfl, x3, pr, i, pts, kd, d, R, rfl, interS s11 hI10, nd, hk1, by omega, hd1, by omega, hpr, by rw [hwin.1, hWl, Nat.mul_comm], ?_⟩
    rw [hdec1]
    intro H12 p12 s12 hp12
    rw [hWe] at hp12
    have s1012 := s11.trans s12
    refine ⟨_, rfl, .inl ⟨p12, pw, i, W.map some, rfl, hp12, s1012 _ _ hpw, by rw [List.length_map]; omega, _, rfl, iteF ?_⟩⟩
    -- erased
    have em2 : (d : Int) * ((pts.length : Int) - (kd : Int)) = ((d * (pts.length - kd) : Nat) : Int) := by
      rw [Int.natCast_mul]
      have : ((pts.length : Int) - (kd : Int)) = ((pts.length - kd : Nat) : Int) := by omega
      rw [this]
    have hm2 : d * (pts.length - kd) ≤ pts.length * d := by
      rw [Nat.mul_comm]
      exact Nat.mul_le_mul_right _ (by omega)
    refine ⟨_, rfl, _, rfl, _, rfl, _, rfl, _, rfl, _, _, rfl, rfl, _, _, rfl, rfl, .inl ⟨by omega, by omega⟩, pw, pn, i, W, ns, d * (pts.length - kd), 33, ?_, SqL.of (s1012 _ _ hpw'), SqL.of (s1012 _ _ hn10), by rw [hWl]; exact hm2, by omega, by omega, fun b2 R2 hb2 hwin2 H13 pr2 s13 hpr2 => ?_⟩
    · show [_, _, V.int _, _] = _
      rw [em2]
      rfl
    have s1013 := s1012.trans s13
    have hdec2 := dW R2 (dec_erased hkn nd hws (by rw [hwl, hWe]; exact hwin2))
    refine ⟨_, rfl, _, rfl, x3, pr2, i, pts, kd, d, R2, rfl, interS s1013 hI10, nd, hk1, by omega, hd1, by omega, hpr2, by rw [hwin2.1, hWl, Nat.mul_comm], ?_⟩
    rw [hdec2]
    intro H14 p14 s14 hp14
    rw [hWe] at hp14
    have s1014 := s1013.trans s14
    refine ⟨_, rfl, .inl ⟨p14, pw, i, W.map some, rfl, hp14, s1014 _ _ hpw, by rw [List.length_map]; omega, _, rfl, iteF ?_⟩⟩
    have hdec3 := dW _ (dec_plain hkn nd hws)
    rw [hWe] at hdec3
    -- many
    refine ⟨_, rfl, _, rfl, by omega, by omega, ?_⟩
    rw [Int.toNat_natCast]
    refine for_range (fun b σ H' => ∃ (v15 : Option V), σ = [some (.ref l), some (.ref pn), some (.ref t), some (.int (fq i)), some (.int pts.length), some (.int kd), some (.int d), some (.ref pp), some (.ref x2), some (.ref x3), some (.ref pm), v11, some (.ref pw), some (.ref pr2), some (.int ((fq i ^ b : Nat) : Int)), v15, none, none, none, none] ∧ H' = H14) ⟨none, rfl, rfl⟩ ?_ ?_
    · rintro b σ H' hb ⟨v15, rfl, rfl⟩
      refine ⟨_, rfl, _, rfl, _, _, rfl, rfl, .inr ⟨by omega, by omega⟩, some (.int (0 + (b : Nat))), ?_, rfl⟩
      rw [Nat.pow_succ, Int.natCast_mul]
      rfl
    rintro σ H' ⟨v15, rfl, rfl⟩
    have hWd : (W.map some).length = d * pts.length := by rw [List.length_map, hWl, Nat.mul_comm]
    have hWlen : (W.map some).length ≤ 10000 := by rw [List.length_map]; omega
    refine ⟨_, rfl, _, _, rfl, rfl, _, rfl, ite2 (fun cc => ?_) fun cc => ?_⟩
    · refine ⟨_, rfl, _, rfl, x3, pw, i, pts, kd, d, W.map some, rfl, interS s1014 hI10, nd, hk1, by omega, hd1, by omega, s1014 _ _ hpw, hWd, ?_⟩
      rw [hdec3]
      intro H3 p3 s3 hp3
      rw [hWe] at hp3
      exact ⟨_, rfl, .inl ⟨p3, pw, i, W.map some, rfl, hp3, s3 _ _ (s1014 _ _ hpw), hWlen, k _⟩⟩
    -- all words
    refine ⟨_, rfl, _, rfl, _, rfl, t, pp, i, pts, kd, rfl, ftS s1014 ft10, SqL.of (s1014 _ _ hpp10), by omega, hk3, fun H15 pws la15 np15 => ?_⟩
    have s15 := la15.1
    have s1015 := s1014.trans s15
    refine ⟨_, rfl, _, rfl, _, rfl, pw, pn, i, W, ns, 36, rfl, SqL.of (s1015 _ _ hpw'), SqL.of (s1015 _ _ hn10), by omega, by omega, fun R3 hR3 H16 pr3 s16 hpr3 => ?_⟩
    have s1016 := s1015.trans s16
    have la16 := LA_same la15 s16
    obtain ⟨_, ws16, w1, w2, w3⟩ := la16
    have hRl : R3.length = d * pts.length := by rw [hR3, hWl, Nat.mul_comm]
    -- parts
    refine ⟨Nat.zero_le _, fun pq hpq => ?_⟩
    have s17 := newS (o := .lst []) hpq
    refine ⟨_, rfl, _, rfl, by omega, by omega, ?_⟩
    rw [Int.toNat_natCast]
    refine for_range (fun j σ H' => ∃ (v11 : Option V) (ps : List V), σ = [some (.ref l), some (.ref pn), some (.ref t), some (.int (fq i)), some (.int pts.length), some (.int kd), some (.int d), some (.ref pp), some (.ref x2), some (.ref x3), some (.ref pm), v11, some (.ref pw), some (.ref pr3), some (.int ((fq i ^ kd : Nat) : Int)), v15, some (.ref pws), some (.ref pq), none, none] ∧ Same H16 H' ∧ H' pq = some (.lst ps) ∧ ps.length = j ∧ ∀ (t : Nat) (v : V), ps[t]? = some v → ∃ o, (decs pts kd d R3 j)[t]? = some o ∧ PartAt H16 v o)
      ⟨v11, [], rfl, s17, upd_same, rfl, fun t v h => by simp at h⟩ ?_ ?_
    · rintro j σ H17 hj ⟨v11, ps, rfl, s1617, hq17, hpl, hps⟩
      refine ⟨_, rfl, .inl ⟨rfl, _, SqL.of hq17⟩, _, rfl, _, rfl, _, rfl, _, rfl, by omega, by omega, fun D2 hD2 => ?_⟩
      rw [Int.toNat_natCast]
      refine lc_range (fun b H2 => H2 = upd H17 D2 (.lst (vr ((List.range b).map fun t => R3.getD (j + d * t) none)))) rfl ?_ ?_
      · rintro b H2 hb rfl
        have e : ((0 + (b : Nat)) : Int) * (d : Int) + (0 + (j : Nat)) = ((j + d * b : Nat) : Int) := by
          rw [Int.natCast_add, Int.natCast_mul, Int.zero_add, Int.zero_add, Int.mul_comm, Int.add_comm]
        have hlt : j + d * b < R3.length := by
          have h := idx_lt hj hb
          rw [hRl, Nat.mul_comm d pts.length]
          exact h
        refine ⟨rfl, _, rfl, _, rfl, _, rfl, _, _, rfl, rfl, .inr ⟨by omega, by omega⟩, _, rfl, _, _, rfl, rfl, pr3, _, _, _, rfl, rfl, SqL.of (newS hD2 _ _ (s1617 _ _ hpr3)), at_of e (vr_at hlt), _, upd_same, smallLt (by rw [vr_len, List.length_map, List.length_range]; omega), ?_⟩
        rw [upd_upd, List.range_succ, List.map_append]
        exact congrArg (fun z => upd H17 D2 (.lst z)) (by simp)
      · rintro H2 rfl
        have s172 := newS (o := .lst (vr ((List.range pts.length).map fun t => R3.getD (j + d * t) none))) hD2
        have s162 := s1617.trans s172
        have grow : ∀ (H3 : Hp) (v : V), Same (upd H17 D2 (.lst (vr ((List.range pts.length).map fun t => R3.getD (j + d * t) none)))) H3 → PartAt H16 v (decode pts kd (cutSt none R3 j d pts.length)) →
            H3 pq = some (.lst ps) ∧ Same H16 (upd H3 pq (.lst (ps ++ [v]))) ∧ (ps ++ [v]).length = j + 1 ∧ ∀ (t : Nat) (u : V), (ps ++ [v])[t]? = some u → ∃ o, (decs pts kd d R3 (j + 1))[t]? = some o ∧ PartAt H16 u o := by
          intro H3 v s3 hv
          refine ⟨s3 _ _ (s172 _ _ hq17), mutS (s162.trans s3) hpq, by simp [hpl], fun t u hu => ?_⟩
          rw [decs_succ]
          by_cases ht : t < ps.length
          · rw [List.getElem?_append_left ht] at hu
            rw [List.getElem?_append_left (by rw [decs_length]; omega)]
            exact hps t u hu
          · have htl : t < (ps ++ [v]).length := (List.getElem?_eq_some_iff.mp hu).1
            rw [List.length_append, List.length_cons, List.length_nil] at htl
            have et : t = ps.length := by omega
            subst et
            rw [List.getElem?_append_right (Nat.le_refl _), Nat.sub_self] at hu
            have eu : v = u := Option.some.inj hu
            subst eu
            exact ⟨_, by rw [List.getElem?_append_right (by rw [decs_length]; omega), decs_length, hpl, Nat.sub_self]; rfl, hv⟩
        have ewl : (words i pts kd).length = ((msgs i kd).map fun m => ve (pts.map (ev m))).length := by unfold words; rw [List.length_map, List.length_map]
        have hat : ∀ (jj : Nat) (a : Addr), ws16[jj]? = some a → ∃ w, (words i pts kd)[jj]? = some w ∧ H16 a = some (.lst (ve w)) ∧ w.length = pts.length := by
          intro jj a ha
          obtain ⟨us, g1, g2, _⟩ := w3 jj a ha
          rw [List.getElem?_map] at g1
          unfold words
          rw [List.getElem?_map]
          cases hm : (msgs i kd)[jj]? with
          | none => rw [hm] at g1; cases g1
          | some mm =>
            rw [hm] at g1
            have e : ve (pts.map (ev mm)) = us := Option.some.inj g1
            subst e
            exact ⟨_, rfl, g2, List.length_map _⟩
        refine ⟨pws, D2, i, kd, ws16, words i pts kd, cutSt none R3 j d pts.length, rfl, SqL.of (s162 _ _ w1), SqL.of upd_same, by rw [w2, ewl], fun jj a ha => ?_, by rw [cutSt_length]; omega, fun H3 jj a w s3 ha hw hnear => ?_, fun H3 s3 hno => ?_⟩
        · obtain ⟨w, h1, h2, h3⟩ := hat jj a ha
          exact ⟨w, h1, SqL.of (s162 _ _ h2), by rw [h3, cutSt_length]⟩
        · obtain ⟨w', h1, h2, h3⟩ := hat jj a ha
          have ew : w' = w := Option.some.inj (h1.symm.trans hw)
          subst ew
          have hdc := decode_word nd (cutSt_length none R3 j d pts.length) (List.mem_of_getElem? hw) hnear
          obtain ⟨g1, g2, g3, g4⟩ := grow H3 (.ref a) s3 (by rw [hdc]; exact ⟨a, rfl, h2⟩)
          exact ⟨pq, _, _, rfl, rfl, g1, smallLt (by omega), some (.int (0 + (j : Nat))), _, rfl, g2, upd_same, g3, g4⟩
        · have hdc := decode_no (R := cutSt none R3 j d pts.length) hno
          obtain ⟨g1, g2, g3, g4⟩ := grow H3 .non s3 (by rw [hdc]; exact rfl)
          exact ⟨pq, _, _, rfl, rfl, g1, smallLt (by omega), some (.int (0 + (j : Nat))), _, rfl, g2, upd_same, g3, g4⟩
    rintro σ H17 ⟨v11, ps, rfl, s1617, hq17, hpl, hps⟩
    have hdp := dp_parts (K := K) (H := H17) ps (decs pts kd d R3 d) (by rw [decs_length, hpl]) fun t v h => by
      obtain ⟨o, h1, h2⟩ := hps t v h
      refine ⟨o, h1, ?_⟩
      cases o with
      | none => exact h2
      | some w =>
        obtain ⟨a, rfl, ha⟩ := h2
        exact ⟨a, rfl, s1617 _ _ ha⟩
    have s1017 := s1016.trans s1617
    -- if None not in parts
    refine ⟨_, rfl, .none, _, .non, .lst (SqL.of hq17) hdp, by decide +kernel, parts_shaped _, _, rfl, ?_⟩
    rw [parts_any]
    rcases decs_cases pts kd d R3 d with ⟨vs3, hvs, hdn⟩ | ⟨hno, hdn⟩
    · rw [hvs] at hps ⊢
      have eany : ((vs3.map some).any Option.isNone) = false := by
        rw [List.any_eq_false]
        intro o ho
        obtain ⟨w, _, rfl⟩ := List.mem_map.mp ho
        simp
      rw [eany]
      obtain ⟨hvl, hvlen⟩ := decN_length d hdn
      refine iteT ?_
      obtain ⟨as, eas2, has⟩ := parts_refs (K := K) s1617 ps vs3 hps (by rw [hpl, hvl])
      subst eas2
      rw [List.length_map] at hpl
      refine ⟨_, rfl, pq, vs3.map ve, pts.length, rfl, ⟨as, SqL.of hq17, by rw [List.length_map]; omega, fun j a ha => by
        obtain ⟨w, h1, h2⟩ := has j a ha
        exact ⟨ve w, by rw [List.getElem?_map, h1]; rfl, h2, by rw [ve_len]; exact hvlen w (List.mem_of_getElem? h1)⟩⟩, by rw [List.length_map]; omega, by rw [List.length_map]; omega, by omega, fun H18 pd s18 npd hpd => ?_⟩
      rw [mix_vr vs3 _ hvlen] at hpd
      refine ⟨_, rfl, _, rfl, x3, pr3, i, pts, kd, d, R3, rfl, interS (s1017.trans s18) hI10, nd, hk1, by omega, hd1, by omega, s18 _ _ (s1617 _ _ hpr3), hRl, ?_⟩
      rw [hdn]
      intro H19 p19 s19 hp19
      refine ⟨_, rfl, .inl ⟨p19, pd, i, (mixL 0 vs3 pts.length).map some, rfl, hp19, s19 _ _ hpd, ?_, _, rfl, iteT ?_⟩⟩
      · rw [List.length_map, mixL_length, hvl]; omega
      · refine ⟨_, rfl, _, rfl, x3, pw, i, pts, kd, d, W.map some, rfl, interS ((s1017.trans s18).trans s19) hI10, nd, hk1, by omega, hd1, by omega, ((s1017.trans s18).trans s19) _ _ hpw, hWd, ?_⟩
        rw [hdec3]
        intro H3 p3 s3 hp3
        rw [hWe] at hp3
        exact ⟨_, rfl, .inl ⟨p3, pw, i, W.map some, rfl, hp3, s3 _ _ (((s1017.trans s18).trans s19) _ _ hpw), hWlen, k _⟩⟩
    · have eany : ((decs pts kd d R3 d).any Option.isNone) = true := List.any_eq_true.mpr ⟨none, hno, rfl⟩
      rw [eany]
      refine iteF ?_
      refine ⟨_, rfl, _, rfl, x3, pr3, i, pts, kd, d, R3, rfl, interS s1017 hI10, nd, hk1, by omega, hd1, by omega, s1617 _ _ hpr3, hRl, ?_⟩
      rw [hdn]
      intro H19 s19
      refine ⟨_, rfl, .inr ⟨rfl, _, rfl, iteT ?_⟩⟩
      refine ⟨_, rfl, _, rfl, x3, pw, i, pts, kd, d, W.map some, rfl, interS (s1017.trans s19) hI10, nd, hk1, by omega, hd1, by omega, (s1017.trans s19) _ _ hpw, hWd, ?_⟩
      rw [hdec3]
      intro H3 p3 s3 hp3
      rw [hWe] at hp3
      exact ⟨_, rfl, .inl ⟨p3, pw, i, W.map some, rfl, hp3, s3 _ _ ((s1017.trans s19) _ _ hpw), hWlen, k _⟩⟩
end
end NW

set_option Elab.async false
set_option linter.all false
set_option maxRecDepth 100000
set_option maxHeartbeats 4000000
/-! The defs put together. Printed by gen_asm.py. -/
namespace NW
open PySem L2 GP
structure DefAt (K : PySem.W.Frag) (mg : Str → Option Value) (x : Str) (st : Stmt) : Prop where
  ex : ∃ (f : Addr) (fd : FuncData), Fun K x x st f fd ∧ mg x = some (.ref f)
structure MetAt (K : PySem.W.Frag) (C : Addr) (m q : Str) (st : Stmt) : Prop where
  ex : ∃ (f : Addr) (fd : FuncData), Fun K m q st f fd ∧ Meth K C m f
structure IniAt (K : PySem.W.Frag) (C : Addr) (q : Str) (st : Stmt) (f : Addr) : Prop where
  ex : ∃ (fd : FuncData), Fun K "__init__" q st f fd
  mkC : Mk K C f
structure IniD (K : PySem.W.Frag) (C : Addr) (q : Str) (st : Stmt) (f : Addr) : Prop where
  ex : ∃ (fd : FuncData) (v : V), FunD K "__init__" q (defArgs st) (defBody st) (defScope st) [v] [] f fd
  mkC : Mk K C f
section
variable {K : PySem.W.Frag} {h : Heap} {mg : Str → Option Value} {st : Stmt} {f C : Addr} {od an : Option Addr} {sl : Array (Option Value)} {oc kV dc pm cd ct : Value}
theorem def_mk {x : Str} (X : K.In h) (G : h.Ns mainGlobals mg) (a : PySem.W.nsIn K mainGlobals x = some (some (.ref f))) (l : K.lookup f = some ⟨oc, od, .func (PySem.W.fnOf x x (defArgs st) (defBody st) (defScope st) .none kV dc pm an cd ct), sl⟩)
    (c : PySem.W.codeIn K cd x = true) (k : PySem.W.keepIn K (.ref f) = true) : DefAt K mg x st := ⟨f, _, fun_mk l c k, PySem.W.mg_of X G a⟩
theorem met_mk {m q : Str} (X : K.In h) (a : PySem.W.findIn K (.ref C) m = some (some (.ref f))) (i : PySem.W.isFn K (.ref f) = true) (l : K.lookup f = some ⟨oc, od, .func (PySem.W.fnOf m q (defArgs st) (defBody st) (defScope st) .none kV dc pm an cd ct), sl⟩)
    (c : PySem.W.codeIn K cd q = true) (k : PySem.W.keepIn K (.ref f) = true) : MetAt K C m q st := ⟨f, _, fun_mk l c k, ⟨a, i, k⟩⟩
theorem ini_mk {q : Str} (X : K.In h) (a : PySem.W.findIn K (.ref C) "__init__" = some (some (.ref f))) (i : PySem.W.isFn K (.ref f) = true) (l : K.lookup f = some ⟨oc, od, .func (PySem.W.fnOf "__init__" q (defArgs st) (defBody st) (defScope st) .none kV dc pm an cd ct), sl⟩)
    (c : PySem.W.codeIn K cd q = true) (k : PySem.W.keepIn K (.ref f) = true) (m : PySem.W.makesIn K C = true) (kc : PySem.W.keepIn K (.ref C) = true) : IniAt K C q st f := ⟨⟨_, fun_mk l c k⟩, ⟨m, a, i, kc⟩⟩
theorem inid_mk {q : Str} {Td md : Addr} {od' : Option Addr} {oc' : Value} {n : Nat} {sl' : Array (Option Value)} (X : K.In h) (a : PySem.W.findIn K (.ref C) "__init__" = some (some (.ref f))) (i : PySem.W.isFn K (.ref f) = true) (l : K.lookup f = some ⟨oc, od, .func (PySem.W.fnOf "__init__" q (defArgs st) (defBody st) (defScope st) (.ref Td) kV dc pm an cd ct), sl⟩)
    (lT : K.lookup Td = some ⟨oc', od', .seq [Value.ref md].toArray n, sl'⟩)
    (c : PySem.W.codeIn K cd q = true) (k : PySem.W.keepIn K (.ref f) = true) (m : PySem.W.makesIn K C = true) (kc : PySem.W.keepIn K (.ref C) = true) : IniD K C q st f :=
  ⟨⟨_, .ref md, ⟨⟨oc, od, .ref Td, kV, dc, pm, an, cd, ct, sl, rfl, l, c, .inr ⟨(fun z => by cases z), Td, _, [Value.ref md], n, rfl, lT, rfl, .cons rfl .nil⟩, .inl rfl⟩, k⟩⟩, ⟨m, a, i, kc⟩⟩
end
theorem kit_own {K : PySem.W.Frag} {T C : Addr} {b : Bool} (h1 : PySem.W.isClsIn K C = true) (h2 : PySem.W.typeIn K (.ref C) = some (.type "type")) (h3 : PySem.W.subIn K (.ref T) (.ref C) = some b) (h4 : PySem.W.subIn K (.ref T) (.ref T) = some true) : PySem.W.kitOne K (.ref T) (.ref C) = some b := by
  by_cases e : T = C
  · subst e
    rw [h4] at h3
    unfold PySem.W.kitOne
    rw [if_pos (by simp)]
    exact h3
  · have e1 : ¬ (Value.ref T == Value.ref C) = true := fun z => e (Value.ref.inj (beq_iff_eq.mp z))
    have h1' : (PySem.W.clsIn K C).isSome = true := h1
    have e2 : ((PySem.W.clsIn K C).isSome && PySem.W.typeIn K (.ref C) == some (.type "type")) = true := by rw [h1', h2] <;> rfl
    unfold PySem.W.kitOne
    rw [if_neg e1]
    show (if ((PySem.W.clsIn K C).isSome && PySem.W.typeIn K (.ref C) == some (.type "type")) = true then PySem.W.subIn K (.ref T) (.ref C) else none) = some b
    rw [if_pos e2]
    exact h3
theorem assemble {P : Program} {w : World} {K : PySem.W.Frag} {mg : Str → Option Value} {base : Heap} {CF CE CI CT CC CV fF fE fI : Addr} (T : Txt K mg CF CE CI) (TM : TooMany K mg CT) (TE : TooErr K mg CT CC CV)
    (D_int_power : DefAt K mg "int_power" s_int_power)
    (D_is_prime : DefAt K mg "is_prime" s_is_prime)
    (D_base_digits : DefAt K mg "base_digits" s_base_digits)
    (D_integer_remainder : DefAt K mg "integer_remainder" s_integer_remainder)
    (D_is_irreducible : DefAt K mg "is_irreducible" s_is_irreducible)
    (D_is_modulus : DefAt K mg "is_modulus" s_is_modulus)
    (I_Field : IniD K CF "Field.__init__" s_Field___init__ fF)
    (M_Field_digits : MetAt K CF "digits" "Field.digits" s_Field_digits)
    (M_Field_element : MetAt K CF "element" "Field.element" s_Field_element)
    (M_Field_plus : MetAt K CF "plus" "Field.plus" s_Field_plus)
    (M_Field_negative : MetAt K CF "negative" "Field.negative" s_Field_negative)
    (M_Field_minus : MetAt K CF "minus" "Field.minus" s_Field_minus)
    (M_Field_times : MetAt K CF "times" "Field.times" s_Field_times)
    (M_Field_inverse : MetAt K CF "inverse" "Field.inverse" s_Field_inverse)
    (M_Field_over : MetAt K CF "over" "Field.over" s_Field_over)
    (D_degree_of : DefAt K mg "degree_of" s_degree_of)
    (D_poly_trim : DefAt K mg "poly_trim" s_poly_trim)
    (D_coefficient : DefAt K mg "coefficient" s_coefficient)
    (D_poly_add : DefAt K mg "poly_add" s_poly_add)
    (D_poly_subtract : DefAt K mg "poly_subtract" s_poly_subtract)
    (D_poly_scale : DefAt K mg "poly_scale" s_poly_scale)
    (D_poly_multiply : DefAt K mg "poly_multiply" s_poly_multiply)
    (D_poly_evaluate : DefAt K mg "poly_evaluate" s_poly_evaluate)
    (D_poly_from_roots : DefAt K mg "poly_from_roots" s_poly_from_roots)
    (D_poly_divide : DefAt K mg "poly_divide" s_poly_divide)
    (D_interpolate : DefAt K mg "interpolate" s_interpolate)
    (D_key_equation : DefAt K mg "key_equation" s_key_equation)
    (D_check_lengths : DefAt K mg "check_lengths" s_check_lengths)
    (D_errors_beside : DefAt K mg "errors_beside" s_errors_beside)
    (D_is_received : DefAt K mg "is_received" s_is_received)
    (D_interleave : DefAt K mg "interleave" s_interleave)
    (D_spread : DefAt K mg "spread" s_spread)
    (D_check_points : DefAt K mg "check_points" s_check_points)
    (I_EvaluationCode : IniAt K CE "EvaluationCode.__init__" s_EvaluationCode___init__ fE)
    (M_EvaluationCode__values : MetAt K CE "_values" "EvaluationCode._values" s_EvaluationCode__values)
    (M_EvaluationCode_mended : MetAt K CE "mended" "EvaluationCode.mended" s_EvaluationCode_mended)
    (M_EvaluationCode_corrected : MetAt K CE "corrected" "EvaluationCode.corrected" s_EvaluationCode_corrected)
    (I_InterleavedCode : IniAt K CI "InterleavedCode.__init__" s_InterleavedCode___init__ fI)
    (M_InterleavedCode_corrected : MetAt K CI "corrected" "InterleavedCode.corrected" s_InterleavedCode_corrected)
    (D__law_row : DefAt K mg "_law_row" s_l_law_row)
    (D__law_numbers : DefAt K mg "_law_numbers" s_l_law_numbers)
    (D__law_field : DefAt K mg "_law_field" s_l_law_field)
    (D__law_digits : DefAt K mg "_law_digits" s_l_law_digits)
    (D__law_item : DefAt K mg "_law_item" s_l_law_item)
    (D__law_order : DefAt K mg "_law_order" s_l_law_order)
    (D__law_plus : DefAt K mg "_law_plus" s_l_law_plus)
    (D__law_times : DefAt K mg "_law_times" s_l_law_times)
    (D__law_values : DefAt K mg "_law_values" s_l_law_values)
    (D__law_mixed : DefAt K mg "_law_mixed" s_l_law_mixed)
    (D__law_points : DefAt K mg "_law_points" s_l_law_points)
    (D__law_words : DefAt K mg "_law_words" s_l_law_words)
    (D__law_part : DefAt K mg "_law_part" s_l_law_part)
    (D__law_same : DefAt K mg "_law_same" s_l_law_same)
    (D__law_told : DefAt K mg "_law_told" s_l_law_told)
    (D__law_errors : DefAt K mg "_law_errors" s_l_law_errors)
    (D__law_erased : DefAt K mg "_law_erased" s_l_law_erased)
    (D__law_any : DefAt K mg "_law_any" s_l_law_any)
    {fa : Addr} {fda : FuncData} (FL : Fun K "law" "law" s_law fa fda) : FnOk P w K mg base CX0 10 fa fda ["_law_script"] (sp_law K) := by
  have C_int_power : Cal P w K mg base CX0 "int_power" ["base", "exponent"] 1 sp_int_power := by
    obtain ⟨f, fd, F, hm⟩ := D_int_power
    exact ⟨f, fd, ok_int_power F T , hm, F.kp, (F.binds (ps := ["base", "exponent"]) fun _ _ _ _ _ _ us hl => match us, hl with | [_, _], _ => rfl)⟩
  have C_is_prime : Cal P w K mg base CX0 "is_prime" ["n"] 1 sp_is_prime := by
    obtain ⟨f, fd, F, hm⟩ := D_is_prime
    exact ⟨f, fd, ok_is_prime F T , hm, F.kp, (F.binds (ps := ["n"]) fun _ _ _ _ _ _ us hl => match us, hl with | [_], _ => rfl)⟩
  have C_base_digits : Cal P w K mg base CX0 "base_digits" ["n", "base", "size"] 1 sp_base_digits := by
    obtain ⟨f, fd, F, hm⟩ := D_base_digits
    exact ⟨f, fd, ok_base_digits F T , hm, F.kp, (F.binds (ps := ["n", "base", "size"]) fun _ _ _ _ _ _ us hl => match us, hl with | [_, _, _], _ => rfl)⟩
  have C_integer_remainder : Cal P w K mg base CX0 "integer_remainder" ["prime", "items", "divisor"] 1 (sp_integer_remainder K) := by
    obtain ⟨f, fd, F, hm⟩ := D_integer_remainder
    exact ⟨f, fd, ok_integer_remainder F T , hm, F.kp, (F.binds (ps := ["prime", "items", "divisor"]) fun _ _ _ _ _ _ us hl => match us, hl with | [_, _, _], _ => rfl)⟩
  have C_is_irreducible : Cal P w K mg base CX0 "is_irreducible" ["prime", "modulus"] 2 (sp_is_irreducible K) := by
    obtain ⟨f, fd, F, hm⟩ := D_is_irreducible
    exact ⟨f, fd, ok_is_irreducible F T C_int_power C_base_digits C_integer_remainder, hm, F.kp, (F.binds (ps := ["prime", "modulus"]) fun _ _ _ _ _ _ us hl => match us, hl with | [_, _], _ => rfl)⟩
  have C_is_modulus : Cal P w K mg base CX0 "is_modulus" ["prime", "modulus"] 3 (sp_is_modulus K) := by
    obtain ⟨f, fd, F, hm⟩ := D_is_modulus
    exact ⟨f, fd, ok_is_modulus F T C_int_power C_is_irreducible, hm, F.kp, (F.binds (ps := ["prime", "modulus"]) fun _ _ _ _ _ _ us hl => match us, hl with | [_, _], _ => rfl)⟩
  have K_F : CalK P w K mg base CX0 fF ["self", "prime", "modulus"] 4 (sp_Field___init__ K CF) := by
    obtain ⟨⟨fd, v, F⟩, hm⟩ := I_Field
    obtain ⟨ds, hv, hb⟩ := F.binds1 (ps := ["self", "prime", "modulus"]) 3 1 (fun z => by cases z) rfl fun T kV doc pm an cdv ct us its hl hl2 => match us, its, hl, hl2 with
      | [_, _, _], [_], _, _ => ⟨_, rfl, rfl⟩
    cases hv
    exact ⟨fd, ok_Field___init__ F T C_is_prime C_is_modulus C_int_power, hb⟩
  have C_CF_digits : CalM P w K mg base CX0 CF "digits" ["self", "a"] 2 (sp_digits K CF) := by
    obtain ⟨f, fd, F, hm⟩ := M_Field_digits
    exact ⟨f, fd, ok_digits F T C_base_digits, hm, (F.binds (ps := ["self", "a"]) fun _ _ _ _ _ _ us hl => match us, hl with | [_, _], _ => rfl)⟩
  have C_CF_element : CalM P w K mg base CX0 CF "element" ["self", "digits"] 1 (sp_element K CF) := by
    obtain ⟨f, fd, F, hm⟩ := M_Field_element
    exact ⟨f, fd, ok_element F T , hm, (F.binds (ps := ["self", "digits"]) fun _ _ _ _ _ _ us hl => match us, hl with | [_, _], _ => rfl)⟩
  have C_CF_plus : CalM P w K mg base CX0 CF "plus" ["self", "a", "b"] 3 (sp_plus K CF) := by
    obtain ⟨f, fd, F, hm⟩ := M_Field_plus
    exact ⟨f, fd, ok_plus F T C_CF_digits C_CF_element, hm, (F.binds (ps := ["self", "a", "b"]) fun _ _ _ _ _ _ us hl => match us, hl with | [_, _, _], _ => rfl)⟩
  have C_CF_negative : CalM P w K mg base CX0 CF "negative" ["self", "a"] 3 (sp_negative K CF) := by
    obtain ⟨f, fd, F, hm⟩ := M_Field_negative
    exact ⟨f, fd, ok_negative F T C_CF_digits C_CF_element, hm, (F.binds (ps := ["self", "a"]) fun _ _ _ _ _ _ us hl => match us, hl with | [_, _], _ => rfl)⟩
  have C_CF_minus : CalM P w K mg base CX0 CF "minus" ["self", "a", "b"] 4 (sp_minus K CF) := by
    obtain ⟨f, fd, F, hm⟩ := M_Field_minus
    exact ⟨f, fd, ok_minus F T C_CF_plus C_CF_negative, hm, (F.binds (ps := ["self", "a", "b"]) fun _ _ _ _ _ _ us hl => match us, hl with | [_, _, _], _ => rfl)⟩
  have C_CF_times : CalM P w K mg base CX0 CF "times" ["self", "a", "b"] 3 (sp_times K CF) := by
    obtain ⟨f, fd, F, hm⟩ := M_Field_times
    exact ⟨f, fd, ok_times F T C_CF_digits C_CF_element C_integer_remainder, hm, (F.binds (ps := ["self", "a", "b"]) fun _ _ _ _ _ _ us hl => match us, hl with | [_, _, _], _ => rfl)⟩
  have C_CF_inverse : CalM P w K mg base CX0 CF "inverse" ["self", "a"] 4 (sp_inverse K CF) := by
    obtain ⟨f, fd, F, hm⟩ := M_Field_inverse
    exact ⟨f, fd, ok_inverse F T C_CF_times, hm, (F.binds (ps := ["self", "a"]) fun _ _ _ _ _ _ us hl => match us, hl with | [_, _], _ => rfl)⟩
  have C_CF_over : CalM P w K mg base CX0 CF "over" ["self", "a", "b"] 5 (sp_over K CF) := by
    obtain ⟨f, fd, F, hm⟩ := M_Field_over
    exact ⟨f, fd, ok_over F T C_CF_times C_CF_inverse, hm, (F.binds (ps := ["self", "a", "b"]) fun _ _ _ _ _ _ us hl => match us, hl with | [_, _, _], _ => rfl)⟩
  have C_degree_of : Cal P w K mg base CX0 "degree_of" ["poly"] 1 (sp_degree_of K) := by
    obtain ⟨f, fd, F, hm⟩ := D_degree_of
    exact ⟨f, fd, ok_degree_of F T , hm, F.kp, (F.binds (ps := ["poly"]) fun _ _ _ _ _ _ us hl => match us, hl with | [_], _ => rfl)⟩
  have C_poly_trim : Cal P w K mg base CX0 "poly_trim" ["items"] 1 (sp_poly_trim K) := by
    obtain ⟨f, fd, F, hm⟩ := D_poly_trim
    exact ⟨f, fd, ok_poly_trim F T , hm, F.kp, (F.binds (ps := ["items"]) fun _ _ _ _ _ _ us hl => match us, hl with | [_], _ => rfl)⟩
  have C_coefficient : Cal P w K mg base CX0 "coefficient" ["poly", "place"] 1 (sp_coefficient K) := by
    obtain ⟨f, fd, F, hm⟩ := D_coefficient
    exact ⟨f, fd, ok_coefficient F T , hm, F.kp, (F.binds (ps := ["poly", "place"]) fun _ _ _ _ _ _ us hl => match us, hl with | [_, _], _ => rfl)⟩
  have C_poly_add : Cal P w K mg base CX0 "poly_add" ["field", "a", "b"] 4 (sp_poly_add K CF) := by
    obtain ⟨f, fd, F, hm⟩ := D_poly_add
    exact ⟨f, fd, ok_poly_add F T C_CF_plus C_coefficient C_poly_trim, hm, F.kp, (F.binds (ps := ["field", "a", "b"]) fun _ _ _ _ _ _ us hl => match us, hl with | [_, _, _], _ => rfl)⟩
  have C_poly_subtract : Cal P w K mg base CX0 "poly_subtract" ["field", "a", "b"] 5 (sp_poly_subtract K CF) := by
    obtain ⟨f, fd, F, hm⟩ := D_poly_subtract
    exact ⟨f, fd, ok_poly_subtract F T C_CF_minus C_coefficient C_poly_trim, hm, F.kp, (F.binds (ps := ["field", "a", "b"]) fun _ _ _ _ _ _ us hl => match us, hl with | [_, _, _], _ => rfl)⟩
  have C_poly_scale : Cal P w K mg base CX0 "poly_scale" ["field", "poly", "factor"] 4 (sp_poly_scale K CF) := by
    obtain ⟨f, fd, F, hm⟩ := D_poly_scale
    exact ⟨f, fd, ok_poly_scale F T C_CF_times C_poly_trim, hm, F.kp, (F.binds (ps := ["field", "poly", "factor"]) fun _ _ _ _ _ _ us hl => match us, hl with | [_, _, _], _ => rfl)⟩
  have C_poly_multiply : Cal P w K mg base CX0 "poly_multiply" ["field", "a", "b"] 4 (sp_poly_multiply K CF) := by
    obtain ⟨f, fd, F, hm⟩ := D_poly_multiply
    exact ⟨f, fd, ok_poly_multiply F T C_CF_plus C_CF_times C_poly_trim, hm, F.kp, (F.binds (ps := ["field", "a", "b"]) fun _ _ _ _ _ _ us hl => match us, hl with | [_, _, _], _ => rfl)⟩
  have C_poly_evaluate : Cal P w K mg base CX0 "poly_evaluate" ["field", "poly", "point"] 4 (sp_poly_evaluate K CF) := by
    obtain ⟨f, fd, F, hm⟩ := D_poly_evaluate
    exact ⟨f, fd, ok_poly_evaluate F T C_CF_plus C_CF_times, hm, F.kp, (F.binds (ps := ["field", "poly", "point"]) fun _ _ _ _ _ _ us hl => match us, hl with | [_, _, _], _ => rfl)⟩
  have C_poly_from_roots : Cal P w K mg base CX0 "poly_from_roots" ["field", "roots"] 5 (sp_poly_from_roots K CF) := by
    obtain ⟨f, fd, F, hm⟩ := D_poly_from_roots
    exact ⟨f, fd, ok_poly_from_roots F T C_CF_negative C_poly_multiply, hm, F.kp, (F.binds (ps := ["field", "roots"]) fun _ _ _ _ _ _ us hl => match us, hl with | [_, _], _ => rfl)⟩
  have C_poly_divide : Cal P w K mg base CX0 "poly_divide" ["field", "poly", "divisor"] 5 (sp_poly_divide K CF) := by
    obtain ⟨f, fd, F, hm⟩ := D_poly_divide
    exact ⟨f, fd, ok_poly_divide F T C_CF_minus C_CF_times C_CF_inverse C_poly_trim, hm, F.kp, (F.binds (ps := ["field", "poly", "divisor"]) fun _ _ _ _ _ _ us hl => match us, hl with | [_, _, _], _ => rfl)⟩
  have C_interpolate : Cal P w K mg base CX0 "interpolate" ["field", "points", "values"] 6 (sp_interpolate K CF) := by
    obtain ⟨f, fd, F, hm⟩ := D_interpolate
    exact ⟨f, fd, ok_interpolate F T C_CF_negative C_CF_over C_poly_from_roots C_poly_divide C_poly_evaluate C_poly_add C_poly_scale, hm, F.kp, (F.binds (ps := ["field", "points", "values"]) fun _ _ _ _ _ _ us hl => match us, hl with | [_, _, _], _ => rfl)⟩
  have C_key_equation : Cal P w K mg base CX0 "key_equation" ["field", "modulus", "value", "bound"] 6 (sp_key_equation K CF) := by
    obtain ⟨f, fd, F, hm⟩ := D_key_equation
    exact ⟨f, fd, ok_key_equation F T C_CF_inverse C_degree_of C_poly_divide C_poly_subtract C_poly_multiply C_poly_scale, hm, F.kp, (F.binds (ps := ["field", "modulus", "value", "bound"]) fun _ _ _ _ _ _ us hl => match us, hl with | [_, _, _, _], _ => rfl)⟩
  have C_check_lengths : Cal P w K mg base CX0 "check_lengths" ["first", "second"] 1 (sp_check_lengths K) := by
    obtain ⟨f, fd, F, hm⟩ := D_check_lengths
    exact ⟨f, fd, ok_check_lengths F T , hm, F.kp, (F.binds (ps := ["first", "second"]) fun _ _ _ _ _ _ us hl => match us, hl with | [_, _], _ => rfl)⟩
  have C_errors_beside : Cal P w K mg base CX0 "errors_beside" ["word", "received"] 2 (sp_errors_beside K) := by
    obtain ⟨f, fd, F, hm⟩ := D_errors_beside
    exact ⟨f, fd, ok_errors_beside F T C_check_lengths, hm, F.kp, (F.binds (ps := ["word", "received"]) fun _ _ _ _ _ _ us hl => match us, hl with | [_, _], _ => rfl)⟩
  have C_is_received : Cal P w K mg base CX0 "is_received" ["field", "length", "received"] 1 (sp_is_received K CF) := by
    obtain ⟨f, fd, F, hm⟩ := D_is_received
    exact ⟨f, fd, ok_is_received F T , hm, F.kp, (F.binds (ps := ["field", "length", "received"]) fun _ _ _ _ _ _ us hl => match us, hl with | [_, _, _], _ => rfl)⟩
  have C_interleave : Cal P w K mg base CX0 "interleave" ["words"] 1 (sp_interleave K) := by
    obtain ⟨f, fd, F, hm⟩ := D_interleave
    exact ⟨f, fd, ok_interleave F T , hm, F.kp, (F.binds (ps := ["words"]) fun _ _ _ _ _ _ us hl => match us, hl with | [_], _ => rfl)⟩
  have C_spread : Cal P w K mg base CX0 "spread" ["word", "depth"] 1 (sp_spread K) := by
    obtain ⟨f, fd, F, hm⟩ := D_spread
    exact ⟨f, fd, ok_spread F T , hm, F.kp, (F.binds (ps := ["word", "depth"]) fun _ _ _ _ _ _ us hl => match us, hl with | [_, _], _ => rfl)⟩
  have C_check_points : Cal P w K mg base CX0 "check_points" ["field", "points"] 1 (sp_check_points K CF) := by
    obtain ⟨f, fd, F, hm⟩ := D_check_points
    exact ⟨f, fd, ok_check_points F T , hm, F.kp, (F.binds (ps := ["field", "points"]) fun _ _ _ _ _ _ us hl => match us, hl with | [_, _], _ => rfl)⟩
  have K_E : CalK P w K mg base CX0 fE ["self", "field", "points", "dimension"] 2 (sp_E_init K CF CE) := by
    obtain ⟨⟨fd, F⟩, hm⟩ := I_EvaluationCode
    exact ⟨fd, ok_E_init F T C_check_points, (F.binds (ps := ["self", "field", "points", "dimension"]) fun _ _ _ _ _ _ us hl => match us, hl with | [_, _, _, _], _ => rfl)⟩
  have C_CE__values : CalM P w K mg base CX0 CE "_values" ["self", "poly"] 5 (sp_values K CF CE) := by
    obtain ⟨f, fd, F, hm⟩ := M_EvaluationCode__values
    exact ⟨f, fd, ok_values F T C_poly_evaluate, hm, (F.binds (ps := ["self", "poly"]) fun _ _ _ _ _ _ us hl => match us, hl with | [_, _], _ => rfl)⟩
  have C_CE_mended : CalM P w K mg base CX0 CE "mended" ["self", "erased"] 1 (sp_mended K CF CE) := by
    obtain ⟨f, fd, F, hm⟩ := M_EvaluationCode_mended
    exact ⟨f, fd, ok_mended F T , hm, (F.binds (ps := ["self", "erased"]) fun _ _ _ _ _ _ us hl => match us, hl with | [_, _], _ => rfl)⟩
  have C_CE_corrected : CalM P w K mg base (L2.CX P w) CE "corrected" ["self", "received"] 7 (sp_E_corrected K CF CE CT) := by
    obtain ⟨f, fd, F, hm⟩ := M_EvaluationCode_corrected
    exact ⟨f, fd, ok_E_corrected F T TM C_is_received C_CE_mended C_poly_from_roots C_interpolate C_key_equation C_poly_divide C_CE__values C_errors_beside, hm, (F.binds (ps := ["self", "received"]) fun _ _ _ _ _ _ us hl => match us, hl with | [_, _], _ => rfl)⟩
  have K_I : CalK P w K mg base CX0 fI ["self", "code", "depth"] 1 (sp_I_init K CF CE CI) := by
    obtain ⟨⟨fd, F⟩, hm⟩ := I_InterleavedCode
    exact ⟨fd, ok_I_init F T , (F.binds (ps := ["self", "code", "depth"]) fun _ _ _ _ _ _ us hl => match us, hl with | [_, _, _], _ => rfl)⟩
  have C_CI_corrected : CalM P w K mg base (L2.CX P w) CI "corrected" ["self", "received"] 8 (sp_I_corrected K CF CE CI CT) := by
    obtain ⟨f, fd, F, hm⟩ := M_InterleavedCode_corrected
    exact ⟨f, fd, ok_I_corrected F T C_is_received C_spread C_interleave C_CE_corrected, hm, (F.binds (ps := ["self", "received"]) fun _ _ _ _ _ _ us hl => match us, hl with | [_, _], _ => rfl)⟩
  have C__law_row : Cal P w K mg base CX0 "_law_row" ["_law_cell", "_law_many", "_law_at"] 1 sp_law_row := by
    obtain ⟨f, fd, F, hm⟩ := D__law_row
    exact ⟨f, fd, ok_law_row F T , hm, F.kp, (F.binds (ps := ["_law_cell", "_law_many", "_law_at"]) fun _ _ _ _ _ _ us hl => match us, hl with | [_, _, _], _ => rfl)⟩
  have C__law_numbers : Cal P w K mg base CX0 "_law_numbers" ["_law_script", "_law_many"] 2 (sp_law_numbers K) := by
    obtain ⟨f, fd, F, hm⟩ := D__law_numbers
    exact ⟨f, fd, ok_law_numbers F T C__law_row, hm, F.kp, (F.binds (ps := ["_law_script", "_law_many"]) fun _ _ _ _ _ _ us hl => match us, hl with | [_, _], _ => rfl)⟩
  have C__law_field : Cal P w K mg base CX0 "_law_field" ["_law_number"] 1 (sp_law_field K) := by
    obtain ⟨f, fd, F, hm⟩ := D__law_field
    exact ⟨f, fd, ok_law_field F T , hm, F.kp, (F.binds (ps := ["_law_number"]) fun _ _ _ _ _ _ us hl => match us, hl with | [_], _ => rfl)⟩
  have C__law_digits : Cal P w K mg base CX0 "_law_digits" ["_law_item_here", "_law_prime", "_law_size"] 1 sp_law_digits := by
    obtain ⟨f, fd, F, hm⟩ := D__law_digits
    exact ⟨f, fd, ok_law_digits F T , hm, F.kp, (F.binds (ps := ["_law_item_here", "_law_prime", "_law_size"]) fun _ _ _ _ _ _ us hl => match us, hl with | [_, _, _], _ => rfl)⟩
  have C__law_item : Cal P w K mg base CX0 "_law_item" ["_law_digits_here", "_law_prime"] 1 (sp_law_item K) := by
    obtain ⟨f, fd, F, hm⟩ := D__law_item
    exact ⟨f, fd, ok_law_item F T , hm, F.kp, (F.binds (ps := ["_law_digits_here", "_law_prime"]) fun _ _ _ _ _ _ us hl => match us, hl with | [_, _], _ => rfl)⟩
  have C__law_order : Cal P w K mg base CX0 "_law_order" ["_law_field_here"] 1 (sp_law_order K) := by
    obtain ⟨f, fd, F, hm⟩ := D__law_order
    exact ⟨f, fd, ok_law_order F T , hm, F.kp, (F.binds (ps := ["_law_field_here"]) fun _ _ _ _ _ _ us hl => match us, hl with | [_], _ => rfl)⟩
  have C__law_plus : Cal P w K mg base CX0 "_law_plus" ["_law_field_here", "_law_a", "_law_b"] 2 (sp_law_plus K) := by
    obtain ⟨f, fd, F, hm⟩ := D__law_plus
    exact ⟨f, fd, ok_law_plus F T C__law_digits C__law_item, hm, F.kp, (F.binds (ps := ["_law_field_here", "_law_a", "_law_b"]) fun _ _ _ _ _ _ us hl => match us, hl with | [_, _, _], _ => rfl)⟩
  have C__law_times : Cal P w K mg base CX0 "_law_times" ["_law_field_here", "_law_a", "_law_b"] 2 (sp_law_times K) := by
    obtain ⟨f, fd, F, hm⟩ := D__law_times
    exact ⟨f, fd, ok_law_times F T C__law_digits C__law_item, hm, F.kp, (F.binds (ps := ["_law_field_here", "_law_a", "_law_b"]) fun _ _ _ _ _ _ us hl => match us, hl with | [_, _, _], _ => rfl)⟩
  have C__law_values : Cal P w K mg base CX0 "_law_values" ["_law_field_here", "_law_points_here", "_law_message"] 3 (sp_law_values K) := by
    obtain ⟨f, fd, F, hm⟩ := D__law_values
    exact ⟨f, fd, ok_law_values F T C__law_plus C__law_times, hm, F.kp, (F.binds (ps := ["_law_field_here", "_law_points_here", "_law_message"]) fun _ _ _ _ _ _ us hl => match us, hl with | [_, _, _], _ => rfl)⟩
  have C__law_mixed : Cal P w K mg base CX0 "_law_mixed" ["_law_words_here"] 1 (sp_law_mixed K) := by
    obtain ⟨f, fd, F, hm⟩ := D__law_mixed
    exact ⟨f, fd, ok_law_mixed F T , hm, F.kp, (F.binds (ps := ["_law_words_here"]) fun _ _ _ _ _ _ us hl => match us, hl with | [_], _ => rfl)⟩
  have C__law_points : Cal P w K mg base CX0 "_law_points" ["_law_order_here", "_law_many", "_law_numbers_here", "_law_at"] 1 (sp_law_points K) := by
    obtain ⟨f, fd, F, hm⟩ := D__law_points
    exact ⟨f, fd, ok_law_points F T , hm, F.kp, (F.binds (ps := ["_law_order_here", "_law_many", "_law_numbers_here", "_law_at"]) fun _ _ _ _ _ _ us hl => match us, hl with | [_, _, _, _], _ => rfl)⟩
  have C__law_words : Cal P w K mg base CX0 "_law_words" ["_law_field_here", "_law_points_here", "_law_dimension"] 4 (sp_law_words K) := by
    obtain ⟨f, fd, F, hm⟩ := D__law_words
    exact ⟨f, fd, ok_law_words F T C__law_order C__law_values, hm, F.kp, (F.binds (ps := ["_law_field_here", "_law_points_here", "_law_dimension"]) fun _ _ _ _ _ _ us hl => match us, hl with | [_, _, _], _ => rfl)⟩
  have C__law_part : Cal P w K mg base CX0 "_law_part" ["_law_words_here", "_law_dimension", "_law_part_here"] 1 (sp_law_part K) := by
    obtain ⟨f, fd, F, hm⟩ := D__law_part
    exact ⟨f, fd, ok_law_part F T , hm, F.kp, (F.binds (ps := ["_law_words_here", "_law_dimension", "_law_part_here"]) fun _ _ _ _ _ _ us hl => match us, hl with | [_, _, _], _ => rfl)⟩
  have C__law_same : Cal P w K mg base CX0 "_law_same" ["_law_actual", "_law_due"] 2 sp_law_same := by
    obtain ⟨f, fd, F, hm⟩ := D__law_same
    have b := (F.binds (ps := ["_law_actual", "_law_due"]) fun _ _ _ _ _ _ us hl => match us, hl with | [_, _], _ => rfl)
    exact ⟨f, fd, ok_law_same F T hm F.kp b, hm, F.kp, b⟩
  have C__law_told : Cal P w K mg base CX0 "_law_told" ["_law_code", "_law_received"] 9 (sp_law_told K CF CE CI) := by
    obtain ⟨f, fd, F, hm⟩ := D__law_told
    exact ⟨f, fd, ok_law_told F T TM TE C__law_same C_CI_corrected, hm, F.kp, (F.binds (ps := ["_law_code", "_law_received"]) fun _ _ _ _ _ _ us hl => match us, hl with | [_, _], _ => rfl)⟩
  have C__law_errors : Cal P w K mg base CX0 "_law_errors" ["_law_word", "_law_order_here", "_law_numbers_here", "_law_many", "_law_at"] 1 (sp_law_errors K) := by
    obtain ⟨f, fd, F, hm⟩ := D__law_errors
    exact ⟨f, fd, ok_law_errors F T , hm, F.kp, (F.binds (ps := ["_law_word", "_law_order_here", "_law_numbers_here", "_law_many", "_law_at"]) fun _ _ _ _ _ _ us hl => match us, hl with | [_, _, _, _, _], _ => rfl)⟩
  have C__law_erased : Cal P w K mg base CX0 "_law_erased" ["_law_word", "_law_numbers_here", "_law_many", "_law_at"] 1 (sp_law_erased K) := by
    obtain ⟨f, fd, F, hm⟩ := D__law_erased
    exact ⟨f, fd, ok_law_erased F T , hm, F.kp, (F.binds (ps := ["_law_word", "_law_numbers_here", "_law_many", "_law_at"]) fun _ _ _ _ _ _ us hl => match us, hl with | [_, _, _, _], _ => rfl)⟩
  have C__law_any : Cal P w K mg base CX0 "_law_any" ["_law_word", "_law_order_here", "_law_numbers_here", "_law_at"] 1 (sp_law_any K) := by
    obtain ⟨f, fd, F, hm⟩ := D__law_any
    exact ⟨f, fd, ok_law_any F T , hm, F.kp, (F.binds (ps := ["_law_word", "_law_order_here", "_law_numbers_here", "_law_at"]) fun _ _ _ _ _ _ us hl => match us, hl with | [_, _, _, _], _ => rfl)⟩
  exact ok_law FL T ⟨I_Field.mkC, I_EvaluationCode.mkC, I_InterleavedCode.mkC⟩ K_F K_E K_I C__law_numbers C__law_field C__law_order C__law_points C__law_mixed C__law_values C__law_errors C__law_same C__law_told C__law_erased C__law_words C__law_any C__law_part
theorem whole {P : Program} {w : World} {K : PySem.W.Frag} {h : Heap} {mg : Str → Option Value} {fa CF CE CI CT CC CV fF fE fI : Addr} {t_LARGEST_PRIME t_LARGEST_ORDER t_LONGEST : Nat} (X : K.In h) (G : h.Ns mainGlobals mg) (hfa : mg "law" = some (.ref fa))
    (n_len : PySem.W.nsIn K mainGlobals "len" = some none)
    (n_range : PySem.W.nsIn K mainGlobals "range" = some none)
    (n_list : PySem.W.nsIn K mainGlobals "list" = some none)
    (n_reversed : PySem.W.nsIn K mainGlobals "reversed" = some none)
    (n_set : PySem.W.nsIn K mainGlobals "set" = some none)
    (n_int : PySem.W.nsIn K mainGlobals "int" = some none)
    (n_bool : PySem.W.nsIn K mainGlobals "bool" = some none)
    (n_tuple : PySem.W.nsIn K mainGlobals "tuple" = some none)
    (n_max : PySem.W.nsIn K mainGlobals "max" = some none)
    (n_min : PySem.W.nsIn K mainGlobals "min" = some none)
    (n_abs : PySem.W.nsIn K mainGlobals "abs" = some none)
    (n_isinstance : PySem.W.nsIn K mainGlobals "isinstance" = some none)
    (c_LARGEST_PRIME : PySem.W.nsIn K mainGlobals "LARGEST_PRIME" = some (some (.int 31 t_LARGEST_PRIME)))
    (c_LARGEST_ORDER : PySem.W.nsIn K mainGlobals "LARGEST_ORDER" = some (some (.int 256 t_LARGEST_ORDER)))
    (c_LONGEST : PySem.W.nsIn K mainGlobals "LONGEST" = some (some (.int 255 t_LONGEST)))
    (gF : PySem.W.nsIn K mainGlobals "Field" = some (some (.ref CF)))
    (gE : PySem.W.nsIn K mainGlobals "EvaluationCode" = some (some (.ref CE)))
    (gI : PySem.W.nsIn K mainGlobals "InterleavedCode" = some (some (.ref CI)))
    (gT : PySem.W.nsIn K mainGlobals "TooManyErrors" = some (some (.ref CT)))
    (gC : PySem.W.nsIn K mainGlobals "CodeError" = some (some (.ref CC)))
    (gV : PySem.W.nsIn K mainGlobals "InvalidWord" = some (some (.ref CV)))
    (pgF : PySem.W.plainGet K CF Str.empty = true)
    (hdF : PySem.W.hasDictIn K CF = true)
    (poF : PySem.W.plainOver K CF = true)
    (saF : PySem.W.findIn K (.ref CF) "__setattr__" = some (some (.builtin "object.__setattr__")))
    (nF_prime : PySem.W.findIn K (.ref CF) "prime" = some none)
    (nF_modulus : PySem.W.findIn K (.ref CF) "modulus" = some none)
    (nF_degree : PySem.W.findIn K (.ref CF) "degree" = some none)
    (nF_order : PySem.W.findIn K (.ref CF) "order" = some none)
    (pgE : PySem.W.plainGet K CE Str.empty = true)
    (hdE : PySem.W.hasDictIn K CE = true)
    (poE : PySem.W.plainOver K CE = true)
    (saE : PySem.W.findIn K (.ref CE) "__setattr__" = some (some (.builtin "object.__setattr__")))
    (nE_field : PySem.W.findIn K (.ref CE) "field" = some none)
    (nE_length : PySem.W.findIn K (.ref CE) "length" = some none)
    (nE_dimension : PySem.W.findIn K (.ref CE) "dimension" = some none)
    (nE__points : PySem.W.findIn K (.ref CE) "_points" = some none)
    (pgI : PySem.W.plainGet K CI Str.empty = true)
    (hdI : PySem.W.hasDictIn K CI = true)
    (poI : PySem.W.plainOver K CI = true)
    (saI : PySem.W.findIn K (.ref CI) "__setattr__" = some (some (.builtin "object.__setattr__")))
    (nI_code : PySem.W.findIn K (.ref CI) "code" = some none)
    (nI_depth : PySem.W.findIn K (.ref CI) "depth" = some none)
    (nI_field : PySem.W.findIn K (.ref CI) "field" = some none)
    (nI_length : PySem.W.findIn K (.ref CI) "length" = some none)
    (nI_burst_mended : PySem.W.findIn K (.ref CI) "burst_mended" = some none)
    (nI_burst_filled : PySem.W.findIn K (.ref CI) "burst_filled" = some none)
    (xT : PySem.W.excIn K CT [.type "ValueError", .type "Exception", .type "BaseException", .type "object"] "ValueError.__new__" = true)
    (kT : PySem.W.keepIn K (.ref CT) = true)
    (bT : PySem.W.subIn K (.ref CT) (.type "BaseException") = some true)
    (tT : PySem.W.typeIn K (.ref CT) = some (.type "type"))
    (e_hg : PySem.W.findIn K (.ref CT) "__getattribute__" = some (some (.builtin "BaseException.__getattribute__")))
    (e_hk : PySem.W.findIn K (.ref CT) "__getattr__" = some none)
    (e_hd : PySem.W.hasDictIn K CT = true)
    (e_ha : PySem.W.findIn K (.ref CT) "__class__" = some (some (.builtin "object.__class__")))
    (e_hn : PySem.W.specialIn K (.builtin "object.__class__") "__get__" = some (some (.builtin "getset_descriptor.__get__")))
    (e_ht : PySem.W.takesIn K (.builtin "object.__class__") = some true)
    (e_hm : PySem.W.mroIn K CT (.type "object") = some true)
    (iCC : PySem.W.isClsIn K CC = true)
    (tCC : PySem.W.typeIn K (.ref CC) = some (.type "type"))
    (sTC : PySem.W.subIn K (.ref CT) (.ref CC) = some true)
    (iCV : PySem.W.isClsIn K CV = true)
    (tCV : PySem.W.typeIn K (.ref CV) = some (.type "type"))
    (sTV : PySem.W.subIn K (.ref CT) (.ref CV) = some false)
    (sTT : PySem.W.subIn K (.ref CT) (.ref CT) = some true)
    (D_int_power : DefAt K mg "int_power" s_int_power)
    (D_is_prime : DefAt K mg "is_prime" s_is_prime)
    (D_base_digits : DefAt K mg "base_digits" s_base_digits)
    (D_integer_remainder : DefAt K mg "integer_remainder" s_integer_remainder)
    (D_is_irreducible : DefAt K mg "is_irreducible" s_is_irreducible)
    (D_is_modulus : DefAt K mg "is_modulus" s_is_modulus)
    (I_Field : IniD K CF "Field.__init__" s_Field___init__ fF)
    (M_Field_digits : MetAt K CF "digits" "Field.digits" s_Field_digits)
    (M_Field_element : MetAt K CF "element" "Field.element" s_Field_element)
    (M_Field_plus : MetAt K CF "plus" "Field.plus" s_Field_plus)
    (M_Field_negative : MetAt K CF "negative" "Field.negative" s_Field_negative)
    (M_Field_minus : MetAt K CF "minus" "Field.minus" s_Field_minus)
    (M_Field_times : MetAt K CF "times" "Field.times" s_Field_times)
    (M_Field_inverse : MetAt K CF "inverse" "Field.inverse" s_Field_inverse)
    (M_Field_over : MetAt K CF "over" "Field.over" s_Field_over)
    (D_degree_of : DefAt K mg "degree_of" s_degree_of)
    (D_poly_trim : DefAt K mg "poly_trim" s_poly_trim)
    (D_coefficient : DefAt K mg "coefficient" s_coefficient)
    (D_poly_add : DefAt K mg "poly_add" s_poly_add)
    (D_poly_subtract : DefAt K mg "poly_subtract" s_poly_subtract)
    (D_poly_scale : DefAt K mg "poly_scale" s_poly_scale)
    (D_poly_multiply : DefAt K mg "poly_multiply" s_poly_multiply)
    (D_poly_evaluate : DefAt K mg "poly_evaluate" s_poly_evaluate)
    (D_poly_from_roots : DefAt K mg "poly_from_roots" s_poly_from_roots)
    (D_poly_divide : DefAt K mg "poly_divide" s_poly_divide)
    (D_interpolate : DefAt K mg "interpolate" s_interpolate)
    (D_key_equation : DefAt K mg "key_equation" s_key_equation)
    (D_check_lengths : DefAt K mg "check_lengths" s_check_lengths)
    (D_errors_beside : DefAt K mg "errors_beside" s_errors_beside)
    (D_is_received : DefAt K mg "is_received" s_is_received)
    (D_interleave : DefAt K mg "interleave" s_interleave)
    (D_spread : DefAt K mg "spread" s_spread)
    (D_check_points : DefAt K mg "check_points" s_check_points)
    (I_EvaluationCode : IniAt K CE "EvaluationCode.__init__" s_EvaluationCode___init__ fE)
    (M_EvaluationCode__values : MetAt K CE "_values" "EvaluationCode._values" s_EvaluationCode__values)
    (M_EvaluationCode_mended : MetAt K CE "mended" "EvaluationCode.mended" s_EvaluationCode_mended)
    (M_EvaluationCode_corrected : MetAt K CE "corrected" "EvaluationCode.corrected" s_EvaluationCode_corrected)
    (I_InterleavedCode : IniAt K CI "InterleavedCode.__init__" s_InterleavedCode___init__ fI)
    (M_InterleavedCode_corrected : MetAt K CI "corrected" "InterleavedCode.corrected" s_InterleavedCode_corrected)
    (D__law_row : DefAt K mg "_law_row" s_l_law_row)
    (D__law_numbers : DefAt K mg "_law_numbers" s_l_law_numbers)
    (D__law_field : DefAt K mg "_law_field" s_l_law_field)
    (D__law_digits : DefAt K mg "_law_digits" s_l_law_digits)
    (D__law_item : DefAt K mg "_law_item" s_l_law_item)
    (D__law_order : DefAt K mg "_law_order" s_l_law_order)
    (D__law_plus : DefAt K mg "_law_plus" s_l_law_plus)
    (D__law_times : DefAt K mg "_law_times" s_l_law_times)
    (D__law_values : DefAt K mg "_law_values" s_l_law_values)
    (D__law_mixed : DefAt K mg "_law_mixed" s_l_law_mixed)
    (D__law_points : DefAt K mg "_law_points" s_l_law_points)
    (D__law_words : DefAt K mg "_law_words" s_l_law_words)
    (D__law_part : DefAt K mg "_law_part" s_l_law_part)
    (D__law_same : DefAt K mg "_law_same" s_l_law_same)
    (D__law_told : DefAt K mg "_law_told" s_l_law_told)
    (D__law_errors : DefAt K mg "_law_errors" s_l_law_errors)
    (D__law_erased : DefAt K mg "_law_erased" s_l_law_erased)
    (D__law_any : DefAt K mg "_law_any" s_l_law_any)
    (D_law : DefAt K mg "law" s_law) : ∃ fd : FuncData, (∀ (s : Shared) (u : Value), BindsTo s fd ⟨[u], []⟩ [("_law_script", u)]) ∧ ∀ base : Heap, K.In base → base.Ns mainGlobals mg → FnOk P w K mg base CX0 10 fa fd ["_law_script"] (sp_law K) := by
  obtain ⟨f, fd, F, hm⟩ := D_law
  have e := hfa.symm.trans hm
  cases e
  have T : Txt K mg CF CE CI := { n_len := PySem.W.mg_none_of X G n_len, n_range := PySem.W.mg_none_of X G n_range, n_list := PySem.W.mg_none_of X G n_list, n_reversed := PySem.W.mg_none_of X G n_reversed, n_set := PySem.W.mg_none_of X G n_set, n_int := PySem.W.mg_none_of X G n_int, n_bool := PySem.W.mg_none_of X G n_bool, n_tuple := PySem.W.mg_none_of X G n_tuple, n_max := PySem.W.mg_none_of X G n_max, n_min := PySem.W.mg_none_of X G n_min, n_abs := PySem.W.mg_none_of X G n_abs, n_isinstance := PySem.W.mg_none_of X G n_isinstance, g_LARGEST_PRIME := ⟨_, PySem.W.mg_of X G c_LARGEST_PRIME⟩, g_LARGEST_ORDER := ⟨_, PySem.W.mg_of X G c_LARGEST_ORDER⟩, g_LONGEST := ⟨_, PySem.W.mg_of X G c_LONGEST⟩, clF := ⟨pgF, hdF, poF, saF⟩, clE := ⟨pgE, hdE, poE, saE⟩, clI := ⟨pgI, hdI, poI, saI⟩, g_Field := PySem.W.mg_of X G gF, g_EvaluationCode := PySem.W.mg_of X G gE, g_InterleavedCode := PySem.W.mg_of X G gI, fF_prime := nF_prime, fF_modulus := nF_modulus, fF_degree := nF_degree, fF_order := nF_order, fE_field := nE_field, fE_length := nE_length, fE_dimension := nE_dimension, fE_points := nE__points, fI_code := nI_code, fI_depth := nI_depth, fI_field := nI_field, fI_length := nI_length, fI_burst_mended := nI_burst_mended, fI_burst_filled := nI_burst_filled }
  have TM : TooMany K mg CT := ⟨xT, PySem.W.mg_of X G gT, kT, bT, tT⟩
  have TE : TooErr K mg CT CC CV := ⟨⟨e_hg, e_hk, bT, e_hd, e_ha, e_hn, e_ht, e_hm⟩, PySem.W.mg_of X G gC, PySem.W.mg_of X G gV, kit_own iCC tCC sTC sTT, kit_own iCV tCV sTV sTT, PySem.W.exm_ref bT e_hd tT sTT⟩
  refine ⟨fd, ?_, fun base _ _ => assemble T TM TE D_int_power D_is_prime D_base_digits D_integer_remainder D_is_irreducible D_is_modulus I_Field M_Field_digits M_Field_element M_Field_plus M_Field_negative M_Field_minus M_Field_times M_Field_inverse M_Field_over D_degree_of D_poly_trim D_coefficient D_poly_add D_poly_subtract D_poly_scale D_poly_multiply D_poly_evaluate D_poly_from_roots D_poly_divide D_interpolate D_key_equation D_check_lengths D_errors_beside D_is_received D_interleave D_spread D_check_points I_EvaluationCode M_EvaluationCode__values M_EvaluationCode_mended M_EvaluationCode_corrected I_InterleavedCode M_InterleavedCode_corrected D__law_row D__law_numbers D__law_field D__law_digits D__law_item D__law_order D__law_plus D__law_times D__law_values D__law_mixed D__law_points D__law_words D__law_part D__law_same D__law_told D__law_errors D__law_erased D__law_any F⟩
  obtain ⟨oc, od, kV, doc, pm, an, cdv, ct, osl, rfl, lk, hcd⟩ := F.ex
  exact fun s u => .of_eq rfl
theorem walk {l : PySem.W.OpenLaw} {q : Program} {loose : List Str} {XP : (Str → Option Value) → Heap → Prop} {YP : World → Heap → Prop} {d : DefRec} {K : Params → PySem.W.Frag} (hn : l.most = some 63) (hdf : d.params.defaults = [])
    (hY : ∀ (w : World) (h : Heap), YP w h → (K w.params).In h)
    (F : ∀ (w : World) (mg : Str → Option Value) (fa : Addr) (h : Heap), (K w.params).In h → h.Ns mainGlobals mg → mg d.name = some (.ref fa) →
      ∃ fd : FuncData, (∀ (s : Shared) (u : Value), BindsTo s fd ⟨[u], []⟩ [("_law_script", u)]) ∧ ∀ base : Heap, (K w.params).In base → base.Ns mainGlobals mg → FnOk l.prog w (K w.params) mg base CX0 10 fa fd ["_law_script"] (sp_law (K w.params))) :
    PySem.W.WalkO q loose XP YP l.row.toRowW d [] (fun f vs => PySem.call f vs) :=
  L2.walk_of (n := 63) (k := 10) (x := "_law_script") (CX := fun _ => CX0) (sp := fun w => sp_law (K w.params)) hn (by decide) hdf ⟨rfl, by decide, by decide⟩ hY F (fun _ _ a ns hl _ hS => ⟨a, ns, rfl, hS, fun _ => rfl⟩) fun _ _ _ _ _ z => z
end NW

set_option Elab.async false
set_option linter.all false
set_option maxRecDepth 100000
open PySem PySem.W PyProof.Rows
set_option maxRecDepth 100000 in
set_option maxHeartbeats 0 in
theorem PySem.Challenge.cw_nearestword_k65_whole_interleaved_bursts_holds : PySem.Challenge.rw_nearestword_k65_whole_interleaved_bursts.Holds := by
  w_on; o_law; k_head; (case hw => w_witness2)
  k_fill
  refine NW.walk (l := PySem.Challenge.rw_nearestword_k65_whole_interleaved_bursts) rfl rfl (fun w h Y => PySem.W.kIn_of Y) ?F
  case F =>
    intro w mg fa h KX G hmg
    refine' NW.whole KX G hmg ?n_len ?n_range ?n_list ?n_reversed ?n_set ?n_int ?n_bool ?n_tuple ?n_max ?n_min ?n_abs ?n_isinstance ?c_LARGEST_PRIME ?c_LARGEST_ORDER ?c_LONGEST ?gF ?gE ?gI ?gT ?gC ?gV ?pgF ?hdF ?poF ?saF ?nF_prime ?nF_modulus ?nF_degree ?nF_order ?pgE ?hdE ?poE ?saE ?nE_field ?nE_length ?nE_dimension ?nE__points ?pgI ?hdI ?poI ?saI ?nI_code ?nI_depth ?nI_field ?nI_length ?nI_burst_mended ?nI_burst_filled ?xT ?kT ?bT ?tT ?e_hg ?e_hk ?e_hd ?e_ha ?e_hn ?e_ht ?e_hm ?iCC ?tCC ?sTC ?iCV ?tCV ?sTV ?sTT ?D_int_power ?D_is_prime ?D_base_digits ?D_integer_remainder ?D_is_irreducible ?D_is_modulus ?I_Field ?M_Field_digits ?M_Field_element ?M_Field_plus ?M_Field_negative ?M_Field_minus ?M_Field_times ?M_Field_inverse ?M_Field_over ?D_degree_of ?D_poly_trim ?D_coefficient ?D_poly_add ?D_poly_subtract ?D_poly_scale ?D_poly_multiply ?D_poly_evaluate ?D_poly_from_roots ?D_poly_divide ?D_interpolate ?D_key_equation ?D_check_lengths ?D_errors_beside ?D_is_received ?D_interleave ?D_spread ?D_check_points ?I_EvaluationCode ?M_EvaluationCode__values ?M_EvaluationCode_mended ?M_EvaluationCode_corrected ?I_InterleavedCode ?M_InterleavedCode_corrected ?D__law_row ?D__law_numbers ?D__law_field ?D__law_digits ?D__law_item ?D__law_order ?D__law_plus ?D__law_times ?D__law_values ?D__law_mixed ?D__law_points ?D__law_words ?D__law_part ?D__law_same ?D__law_told ?D__law_errors ?D__law_erased ?D__law_any ?D_law
    (case n_len => k_is)
    (case n_range => k_is)
    (case n_list => k_is)
    (case n_reversed => k_is)
    (case n_set => k_is)
    (case n_int => k_is)
    (case n_bool => k_is)
    (case n_tuple => k_is)
    (case n_max => k_is)
    (case n_min => k_is)
    (case n_abs => k_is)
    (case n_isinstance => k_is)
    (case c_LARGEST_PRIME => k_is)
    (case c_LARGEST_ORDER => k_is)
    (case c_LONGEST => k_is)
    (case gF => k_is)
    (case gE => k_is)
    (case gI => k_is)
    (case gT => k_is)
    (case gC => k_is)
    (case gV => k_is)
    (case pgF => k_is)
    (case hdF => k_is)
    (case poF => k_is)
    (case saF => k_is)
    (case nF_prime => k_is)
    (case nF_modulus => k_is)
    (case nF_degree => k_is)
    (case nF_order => k_is)
    (case pgE => k_is)
    (case hdE => k_is)
    (case poE => k_is)
    (case saE => k_is)
    (case nE_field => k_is)
    (case nE_length => k_is)
    (case nE_dimension => k_is)
    (case nE__points => k_is)
    (case pgI => k_is)
    (case hdI => k_is)
    (case poI => k_is)
    (case saI => k_is)
    (case nI_code => k_is)
    (case nI_depth => k_is)
    (case nI_field => k_is)
    (case nI_length => k_is)
    (case nI_burst_mended => k_is)
    (case nI_burst_filled => k_is)
    (case xT => k_exc)
    (case kT => k_is)
    (case bT => k_is)
    (case tT => k_is)
    (case e_hg => k_is)
    (case e_hk => k_is)
    (case e_hd => k_is)
    (case e_ha => k_is)
    (case e_hn => k_is)
    (case e_ht => k_is)
    (case e_hm => k_is)
    (case iCC => k_is)
    (case tCC => k_is)
    (case sTC => k_is)
    (case iCV => k_is)
    (case tCV => k_is)
    (case sTV => k_is)
    (case sTT => first | rfl | k_is)
    (case D_int_power => (refine' NW.def_mk KX G ?a ?l ?c ?k; (case a => k_is); (case l => k_is); (case c => k_is); (case k => k_is)))
    (case D_is_prime => (refine' NW.def_mk KX G ?a ?l ?c ?k; (case a => k_is); (case l => k_is); (case c => k_is); (case k => k_is)))
    (case D_base_digits => (refine' NW.def_mk KX G ?a ?l ?c ?k; (case a => k_is); (case l => k_is); (case c => k_is); (case k => k_is)))
    (case D_integer_remainder => (refine' NW.def_mk KX G ?a ?l ?c ?k; (case a => k_is); (case l => k_is); (case c => k_is); (case k => k_is)))
    (case D_is_irreducible => (refine' NW.def_mk KX G ?a ?l ?c ?k; (case a => k_is); (case l => k_is); (case c => k_is); (case k => k_is)))
    (case D_is_modulus => (refine' NW.def_mk KX G ?a ?l ?c ?k; (case a => k_is); (case l => k_is); (case c => k_is); (case k => k_is)))
    (case I_Field => (refine' NW.inid_mk KX ?a ?i ?l ?lT ?c ?k ?m ?kc; (case a => k_is); (case i => k_is); (case l => k_is); (case lT => k_is); (case c => k_is); (case k => k_is); (case m => k_is); (case kc => k_is)))
    (case M_Field_digits => (refine' NW.met_mk KX ?a ?i ?l ?c ?k; (case a => k_is); (case i => k_is); (case l => k_is); (case c => k_is); (case k => k_is)))
    (case M_Field_element => (refine' NW.met_mk KX ?a ?i ?l ?c ?k; (case a => k_is); (case i => k_is); (case l => k_is); (case c => k_is); (case k => k_is)))
    (case M_Field_plus => (refine' NW.met_mk KX ?a ?i ?l ?c ?k; (case a => k_is); (case i => k_is); (case l => k_is); (case c => k_is); (case k => k_is)))
    (case M_Field_negative => (refine' NW.met_mk KX ?a ?i ?l ?c ?k; (case a => k_is); (case i => k_is); (case l => k_is); (case c => k_is); (case k => k_is)))
    (case M_Field_minus => (refine' NW.met_mk KX ?a ?i ?l ?c ?k; (case a => k_is); (case i => k_is); (case l => k_is); (case c => k_is); (case k => k_is)))
    (case M_Field_times => (refine' NW.met_mk KX ?a ?i ?l ?c ?k; (case a => k_is); (case i => k_is); (case l => k_is); (case c => k_is); (case k => k_is)))
    (case M_Field_inverse => (refine' NW.met_mk KX ?a ?i ?l ?c ?k; (case a => k_is); (case i => k_is); (case l => k_is); (case c => k_is); (case k => k_is)))
    (case M_Field_over => (refine' NW.met_mk KX ?a ?i ?l ?c ?k; (case a => k_is); (case i => k_is); (case l => k_is); (case c => k_is); (case k => k_is)))
    (case D_degree_of => (refine' NW.def_mk KX G ?a ?l ?c ?k; (case a => k_is); (case l => k_is); (case c => k_is); (case k => k_is)))
    (case D_poly_trim => (refine' NW.def_mk KX G ?a ?l ?c ?k; (case a => k_is); (case l => k_is); (case c => k_is); (case k => k_is)))
    (case D_coefficient => (refine' NW.def_mk KX G ?a ?l ?c ?k; (case a => k_is); (case l => k_is); (case c => k_is); (case k => k_is)))
    (case D_poly_add => (refine' NW.def_mk KX G ?a ?l ?c ?k; (case a => k_is); (case l => k_is); (case c => k_is); (case k => k_is)))
    (case D_poly_subtract => (refine' NW.def_mk KX G ?a ?l ?c ?k; (case a => k_is); (case l => k_is); (case c => k_is); (case k => k_is)))
    (case D_poly_scale => (refine' NW.def_mk KX G ?a ?l ?c ?k; (case a => k_is); (case l => k_is); (case c => k_is); (case k => k_is)))
    (case D_poly_multiply => (refine' NW.def_mk KX G ?a ?l ?c ?k; (case a => k_is); (case l => k_is); (case c => k_is); (case k => k_is)))
    (case D_poly_evaluate => (refine' NW.def_mk KX G ?a ?l ?c ?k; (case a => k_is); (case l => k_is); (case c => k_is); (case k => k_is)))
    (case D_poly_from_roots => (refine' NW.def_mk KX G ?a ?l ?c ?k; (case a => k_is); (case l => k_is); (case c => k_is); (case k => k_is)))
    (case D_poly_divide => (refine' NW.def_mk KX G ?a ?l ?c ?k; (case a => k_is); (case l => k_is); (case c => k_is); (case k => k_is)))
    (case D_interpolate => (refine' NW.def_mk KX G ?a ?l ?c ?k; (case a => k_is); (case l => k_is); (case c => k_is); (case k => k_is)))
    (case D_key_equation => (refine' NW.def_mk KX G ?a ?l ?c ?k; (case a => k_is); (case l => k_is); (case c => k_is); (case k => k_is)))
    (case D_check_lengths => (refine' NW.def_mk KX G ?a ?l ?c ?k; (case a => k_is); (case l => k_is); (case c => k_is); (case k => k_is)))
    (case D_errors_beside => (refine' NW.def_mk KX G ?a ?l ?c ?k; (case a => k_is); (case l => k_is); (case c => k_is); (case k => k_is)))
    (case D_is_received => (refine' NW.def_mk KX G ?a ?l ?c ?k; (case a => k_is); (case l => k_is); (case c => k_is); (case k => k_is)))
    (case D_interleave => (refine' NW.def_mk KX G ?a ?l ?c ?k; (case a => k_is); (case l => k_is); (case c => k_is); (case k => k_is)))
    (case D_spread => (refine' NW.def_mk KX G ?a ?l ?c ?k; (case a => k_is); (case l => k_is); (case c => k_is); (case k => k_is)))
    (case D_check_points => (refine' NW.def_mk KX G ?a ?l ?c ?k; (case a => k_is); (case l => k_is); (case c => k_is); (case k => k_is)))
    (case I_EvaluationCode => (refine' NW.ini_mk KX ?a ?i ?l ?c ?k ?m ?kc; (case a => k_is); (case i => k_is); (case l => k_is); (case c => k_is); (case k => k_is); (case m => k_is); (case kc => k_is)))
    (case M_EvaluationCode__values => (refine' NW.met_mk KX ?a ?i ?l ?c ?k; (case a => k_is); (case i => k_is); (case l => k_is); (case c => k_is); (case k => k_is)))
    (case M_EvaluationCode_mended => (refine' NW.met_mk KX ?a ?i ?l ?c ?k; (case a => k_is); (case i => k_is); (case l => k_is); (case c => k_is); (case k => k_is)))
    (case M_EvaluationCode_corrected => (refine' NW.met_mk KX ?a ?i ?l ?c ?k; (case a => k_is); (case i => k_is); (case l => k_is); (case c => k_is); (case k => k_is)))
    (case I_InterleavedCode => (refine' NW.ini_mk KX ?a ?i ?l ?c ?k ?m ?kc; (case a => k_is); (case i => k_is); (case l => k_is); (case c => k_is); (case k => k_is); (case m => k_is); (case kc => k_is)))
    (case M_InterleavedCode_corrected => (refine' NW.met_mk KX ?a ?i ?l ?c ?k; (case a => k_is); (case i => k_is); (case l => k_is); (case c => k_is); (case k => k_is)))
    (case D__law_row => (refine' NW.def_mk KX G ?a ?l ?c ?k; (case a => k_is); (case l => k_is); (case c => k_is); (case k => k_is)))
    (case D__law_numbers => (refine' NW.def_mk KX G ?a ?l ?c ?k; (case a => k_is); (case l => k_is); (case c => k_is); (case k => k_is)))
    (case D__law_field => (refine' NW.def_mk KX G ?a ?l ?c ?k; (case a => k_is); (case l => k_is); (case c => k_is); (case k => k_is)))
    (case D__law_digits => (refine' NW.def_mk KX G ?a ?l ?c ?k; (case a => k_is); (case l => k_is); (case c => k_is); (case k => k_is)))
    (case D__law_item => (refine' NW.def_mk KX G ?a ?l ?c ?k; (case a => k_is); (case l => k_is); (case c => k_is); (case k => k_is)))
    (case D__law_order => (refine' NW.def_mk KX G ?a ?l ?c ?k; (case a => k_is); (case l => k_is); (case c => k_is); (case k => k_is)))
    (case D__law_plus => (refine' NW.def_mk KX G ?a ?l ?c ?k; (case a => k_is); (case l => k_is); (case c => k_is); (case k => k_is)))
    (case D__law_times => (refine' NW.def_mk KX G ?a ?l ?c ?k; (case a => k_is); (case l => k_is); (case c => k_is); (case k => k_is)))
    (case D__law_values => (refine' NW.def_mk KX G ?a ?l ?c ?k; (case a => k_is); (case l => k_is); (case c => k_is); (case k => k_is)))
    (case D__law_mixed => (refine' NW.def_mk KX G ?a ?l ?c ?k; (case a => k_is); (case l => k_is); (case c => k_is); (case k => k_is)))
    (case D__law_points => (refine' NW.def_mk KX G ?a ?l ?c ?k; (case a => k_is); (case l => k_is); (case c => k_is); (case k => k_is)))
    (case D__law_words => (refine' NW.def_mk KX G ?a ?l ?c ?k; (case a => k_is); (case l => k_is); (case c => k_is); (case k => k_is)))
    (case D__law_part => (refine' NW.def_mk KX G ?a ?l ?c ?k; (case a => k_is); (case l => k_is); (case c => k_is); (case k => k_is)))
    (case D__law_same => (refine' NW.def_mk KX G ?a ?l ?c ?k; (case a => k_is); (case l => k_is); (case c => k_is); (case k => k_is)))
    (case D__law_told => (refine' NW.def_mk KX G ?a ?l ?c ?k; (case a => k_is); (case l => k_is); (case c => k_is); (case k => k_is)))
    (case D__law_errors => (refine' NW.def_mk KX G ?a ?l ?c ?k; (case a => k_is); (case l => k_is); (case c => k_is); (case k => k_is)))
    (case D__law_erased => (refine' NW.def_mk KX G ?a ?l ?c ?k; (case a => k_is); (case l => k_is); (case c => k_is); (case k => k_is)))
    (case D__law_any => (refine' NW.def_mk KX G ?a ?l ?c ?k; (case a => k_is); (case l => k_is); (case c => k_is); (case k => k_is)))
    (case D_law => (refine' NW.def_mk KX G ?a ?l ?c ?k; (case a => k_is); (case l => k_is); (case c => k_is); (case k => k_is)))
